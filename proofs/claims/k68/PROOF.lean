import PyProof.Rows.All
import Wide.All
import OpenK.AllK
import Wide.FinOn
import HandS.ForMost
import HandS.Exc
import HandS.TryOnly
import HandS.ExcOwn
import HandS.WordsExc
import HandS.IsInst
import HandS.Zip
import HandS.Wide
import HandS.TupAny
import HandS.Flow
import HandS.Style
import HandS.Deep
import HandS.Dict
import HandS.More
import HandS.ExcIs
import HandS.Text
import HandS.RevRange
import HandS.SortKw
import KE.DataMinMax
import PyProof.ExcBaseAll.ValueError
import KE.SortData
import KE.DataCmp
import HandS.ExcValue
import KE.GoesEnum
import KE.DatumOrd
import HandS.Codes
import PySem.Challenge.RW_felltimber_k68_orders_by_sizes
set_option Elab.async false
set_option linter.all false
set_option maxRecDepth 100000
set_option maxHeartbeats 4000000
set_option autoImplicit false
/-! Fe0: abstract values, the small language, its interpreter -/
namespace Fe
open PySem

/-- values: immutable data inline, mutable objects by their place in the store, a frozen list inline -/
inductive Val where
  | non | bl (b : Bool) | int (i : Int) | str (s : Str) | tup (xs : List Val) | fls (xs : List Val) | ref (l : Nat)
instance : Inhabited Val := ⟨.non⟩

inductive Ob where
  | lst (xs : List Val)
  | dic (kvs : List (Val × Val))
  | ins (c : Str) (fs : List (Str × Val))

abbrev Sto := List Ob
/-- a value, or a new object that nobody else holds -/
inductive Rv where
  | v (x : Val)
  | t (o : Ob)
structure Exn where
  cls : Str
  fs : List (Str × Val)
inductive Res (α : Type) where
  | ok (a : α) (S : Sto)
  | exc (x : Exn) (S : Sto)
  | bad
def Res.bind {α β : Type} (r : Res α) (f : α → Sto → Res β) : Res β := match r with
  | .ok a S => f a S
  | .exc x S => .exc x S
  | .bad => .bad
/-- an error that must not leave -/
def Res.nox {α : Type} (r : Res α) : Res α := match r with
  | .ok a S => .ok a S
  | _ => .bad
def Res.of {α : Type} (o : Option α) (S : Sto) : Res α := match o with
  | some a => .ok a S
  | none => .bad
theorem Res.bind_ok {α β : Type} (a : α) (S : Sto) (f : α → Sto → Res β) : (Res.ok a S).bind f = f a S := rfl
theorem Res.bind_exc {α β : Type} (x : Exn) (S : Sto) (f : α → Sto → Res β) : (Res.exc x S : Res α).bind f = .exc x S := rfl
theorem Res.bind_bad {α β : Type} (f : α → Sto → Res β) : (Res.bad : Res α).bind f = .bad := rfl

/-! ### references below a bound -/
mutual
def Val.bel (n : Nat) : Val → Bool
  | .tup xs => Val.belL n xs
  | .fls xs => Val.belL n xs
  | .ref l => decide (l < n)
  | .non => true
  | .bl _ => true
  | .int _ => true
  | .str _ => true
def Val.belL (n : Nat) : List Val → Bool
  | [] => true
  | x :: xs => Val.bel n x && Val.belL n xs
end
def belKV (n : Nat) : List (Val × Val) → Bool
  | [] => true
  | (k, v) :: r => k.bel n && v.bel n && belKV n r
def belF (n : Nat) : List (Str × Val) → Bool
  | [] => true
  | (_, v) :: r => v.bel n && belF n r
def Ob.bel (n : Nat) : Ob → Bool
  | .lst xs => Val.belL n xs
  | .dic kvs => belKV n kvs
  | .ins _ fs => belF n fs
def Rv.bel (n : Nat) : Rv → Bool
  | .v x => x.bel n
  | .t o => o.bel n
def belS (n : Nat) : Sto → Bool
  | [] => true
  | o :: r => o.bel n && belS n r

/-! ### as plain data -/
mutual
def Val.pd : Val → PyData
  | .non => .none
  | .bl b => .bool b
  | .int i => .int i
  | .str s => .str s
  | .tup xs => .tuple (Val.pdL xs)
  | .fls xs => .list (Val.pdL xs)
  | .ref _ => .none
def Val.pdL : List Val → List PyData
  | [] => []
  | x :: xs => Val.pd x :: Val.pdL xs
end
/-- the data of a value that holds no reference, or of a list of such -/
def datR (S : Sto) : Rv → Option PyData
  | .v (.ref l) => match S[l]? with
    | some (.lst xs) => if Val.belL 0 xs = true then some (.list (Val.pdL xs)) else none
    | _ => none
  | .v x => if x.bel 0 = true then some x.pd else none
  | .t (.lst xs) => if Val.belL 0 xs = true then some (.list (Val.pdL xs)) else none
  | .t _ => none

/-! ### what a list, a tuple holds -/
def lstW (S : Sto) : Rv → Option (List Val)
  | .t (.lst xs) => some xs
  | .v (.ref l) => match S[l]? with
    | some (.lst xs) => some xs
    | _ => none
  | _ => none
def lstOf (S : Sto) : Rv → Option (List Val)
  | .v (.fls xs) => some xs
  | r => lstW S r
/-- what a dict holds -/
def dicW (S : Sto) : Rv → Option (List (Val × Val))
  | .t (.dic kvs) => some kvs
  | .v (.ref l) => match S[l]? with
    | some (.dic kvs) => some kvs
    | _ => none
  | _ => none
def keyEq : Val → Val → Bool
  | .int i, .int j => decide (i = j)
  | .str a, .str b => decide (a = b)
  | _, _ => false
def dval (k : Val) (kvs : List (Val × Val)) : Option Val := (kvs.find? fun p => keyEq p.1 k).map (·.2)
def dput (k v : Val) (kvs : List (Val × Val)) : List (Val × Val) := if (kvs.any fun p => keyEq p.1 k) = true then kvs.map fun p => if keyEq p.1 k = true then (p.1, v) else p else kvs ++ [(k, v)]
def seqOf (S : Sto) : Rv → Option (List Val)
  | .v (.tup xs) => some xs
  | r => lstOf S r
def intsOf : List Val → Option (List Int)
  | [] => some []
  | .int i :: r => (intsOf r).map (i :: ·)
  | _ :: _ => none
def blsOf : List Val → Option (List Bool)
  | [] => some []
  | .bl i :: r => (blsOf r).map (i :: ·)
  | _ :: _ => none
def strsOf : List Val → Option (List Str)
  | [] => some []
  | .str i :: r => (strsOf r).map (i :: ·)
  | _ :: _ => none

/-! ### the language -/
inductive Bop where
  | add | sub | mul | fdiv | mod | pow
inductive Cop where
  | eq | ne | lt | le | gt | ge | is | isn | isin | notin
inductive Bf where
  | len | abs | max | min | sum | all | any | tuple | list | int | str | sorted
inductive Mf where
  | append | pop | reverse | clear
/-- the types that are asked about -/
inductive Ty where
  | bl | int | str | tup | lst | dic
def Ty.name : Ty → String
  | .bl => "bool"
  | .int => "int"
  | .str => "str"
  | .tup => "tuple"
  | .lst => "list"
  | .dic => "dict"
inductive Tg where
  | n (i : Nat)
  | t (ts : List Tg)
mutual
inductive E where
  | var (i : Nat)
  | cst (x : Val)
  | glb (x : Str) (v : Val)
  | tup (es : Es)
  | lst (es : Es)
  | dic0
  | join (m : Str) (a : E)
  | maxd (a : E) (d : Int)
  | bin (o : Bop) (a b : E)
  | neg (a : E)
  | cmp (o : Cop) (a b : E)
  | and (a b : E)
  | or (a b : E)
  | not (a : E)
  | ite (c a b : E)
  | call (f : Str) (es : Es)
  | blt (f : Bf) (es : Es)
  | isi (a : E) (t : Ty)
  | isiT (a : E) (ts : List Ty)
  | fz (a : E)
  | call0 (f : Str)
  | met (m : Mf) (o : E) (es : Es)
  | ext (o a : E)
  | ix (a i : E)
  | sl (a : E) (lo hi : Eo)
  | rev (a : E)
  | rep (a b : E)
  | comp (own : List Nat) (tg : Tg) (it : It) (c : Eo) (e : E)
inductive Es where
  | nil
  | cons (e : E) (r : Es)
inductive Eo where
  | none
  | some (e : E)
inductive It where
  | e (a : E)
  | rg1 (a : E)
  | rg2 (a b : E)
  | enum (a : E)
  | zip (a b : E)
  | rv (a : E)
  | rvr (a : E)
end
mutual
inductive C where
  | set (i : Nat) (e : E)
  | asg (t : Tg) (e : E)
  | par (i j : Nat) (a b : E)
  | setIx (o i e : E)
  | aug (i : Nat) (o : Bop) (e : E)
  | ex (e : E)
  | ret (e : Eo)
  | ite (c : E) (a b : Cs)
  | wh (c : E) (b : Cs)
  | for (t : Tg) (it : It) (b : Cs)
  | pass
  | cont
  | brk
  | rse (c m : Str)
  | tryE (tb : List (Str × List Str)) (b : Cs) (c : Str) (i : Nat) (ifs : List (List Str)) (p q : Str)
  | tryH (ps : List Str) (b : Cs) (c : Str) (i : Nat) (hs : Hl)
  | never
inductive Cs where
  | nil
  | cons (c : C) (r : Cs)
  | kill (is : List Nat) (r : Cs)
/-- a handler's text, class by class, its tests told -/
inductive Hl where
  | nil
  | cons (c : Str) (b : Cs) (r : Hl)
end

/-! ### operations on values -/
def mulOk (i j : Int) : Bool := decide (-(2 ^ 64) < i) && decide (i < 2 ^ 64) || decide (-(2 ^ 64) < j) && decide (j < 2 ^ 64) || decide (i.natAbs.log2 + j.natAbs.log2 + 2 ≤ 1000000)
def divOk (j : Int) : Bool := decide (j ≠ 0) && decide (j.natAbs < 1073741824) || decide (0 < j) && decide (j.natAbs.log2 < 9000)
def powOk (i j : Int) : Bool := decide (0 ≤ j) && decide (j ≤ 1000000) && decide (i.natAbs < 2 ^ 64)

def addR (S : Sto) : Rv → Rv → Option Rv
  | .v (.int i), .v (.int j) => some (.v (.int (i + j)))
  | .v (.str a), .v (.str b) => if a.length + b.length ≤ sizeLine then some (.v (.str (a ++ b))) else none
  | .v (.tup a), .v (.tup b) => if a.length + b.length ≤ sizeLine then some (.v (.tup (a ++ b))) else none
  | x, y => match lstW S x, lstW S y with
    | some a, some b => if a.length + b.length ≤ sizeLine then some (.t (.lst (a ++ b))) else none
    | _, _ => none
def binR (S : Sto) : Bop → Rv → Rv → Option Rv
  | .add, x, y => addR S x y
  | .sub, .v (.int i), .v (.int j) => some (.v (.int (i - j)))
  | .mul, .v (.int i), .v (.int j) => if mulOk i j = true then some (.v (.int (i * j))) else none
  | .fdiv, .v (.int i), .v (.int j) => if divOk j = true then some (.v (.int (i.fdiv j))) else none
  | .mod, .v (.int i), .v (.int j) => if j ≠ 0 then some (.v (.int (i.fmod j))) else none
  | .pow, .v (.int i), .v (.int j) => if powOk i j = true then some (.v (.int (i ^ j.toNat))) else none
  | _, _, _ => none
def flatVal : Val → Bool
  | .non => true
  | .bl _ => true
  | .int _ => true
  | .str _ => true
  | _ => false
def isNon : Rv → Bool
  | .v .non => true
  | _ => false
/-- Python's == of data -/
def eqR (S : Sto) (x y : Rv) : Option Bool := match datR S x, datR S y with
  | some d, some e => if SeqAt.shaped d = true ∧ SeqAt.shaped e = true then some (PyData.eqv d e) else none
  | _, _ => none
/-- Python's < of tuples, place by place -/
def ltD (x y : PyData) : Option Bool := if PySem.W.alike x y = true ∧ min x.depth y.depth ≤ 60 then some (PySem.W.dataLt x y) else none
def ltR : Val → Val → Option Bool
  | .int i, .int j => some (decide (i < j))
  | .str i, .str j => some (decide (i.cps.toList < j.cps.toList))
  | .tup a, .tup b => if Val.belL 0 a = true ∧ Val.belL 0 b = true then ltD (.tuple (Val.pdL a)) (.tuple (Val.pdL b)) else none
  | _, _ => none
def gtD (x y : PyData) : Option Bool := if PySem.W.alike x y = true ∧ min x.depth y.depth ≤ 60 then some (PySem.W.dataLt y x) else none
def gtR : Val → Val → Option Bool
  | .int i, .int j => some (decide (j < i))
  | .tup a, .tup b => if Val.belL 0 a = true ∧ Val.belL 0 b = true then gtD (.tuple (Val.pdL a)) (.tuple (Val.pdL b)) else none
  | _, _ => none
def inR (S : Sto) (x y : Rv) : Option Bool := match x, y with
  | .v (.str a), .v (.str b) => some (!(Builtin.Str.occurrences b a 0 b.length 1).isEmpty)
  | .v x, y => match lstOf S y with
    | some ys => if x.bel 0 = true ∧ Val.belL 0 ys = true ∧ SeqAt.shaped x.pd = true ∧ SeqAt.shaped (.list (Val.pdL ys)) = true then some ((Val.pdL ys).any fun z => PyData.eqv z x.pd) else none
    | none => none
  | _, _ => none
def cmpR (S : Sto) : Cop → Rv → Rv → Option Bool
  | .eq, x, y => eqR S x y
  | .ne, x, y => (eqR S x y).map (!·)
  | .lt, .v x, .v y => ltR x y
  | .gt, .v x, .v y => gtR x y
  | .le, .v (.int i), .v (.int j) => some (decide (i ≤ j))
  | .ge, .v (.int i), .v (.int j) => some (decide (j ≤ i))
  | .is, x, .v .non => some (isNon x)
  | .isn, x, .v .non => some (!isNon x)
  | .isin, x, y => inR S x y
  | .notin, x, y => (inR S x y).map (!·)
  | _, _, _ => none
/-- truth -/
def truR (S : Sto) : Rv → Option Bool
  | .v .non => some false
  | .v (.bl b) => some b
  | .v (.int i) => some (i != 0)
  | .v (.str s) => if s.length ≤ sizeLine then some (s.length != 0) else none
  | r => (seqOf S r).map fun xs => !xs.isEmpty
def maxI : Int → List Int → Int
  | m, [] => m
  | m, x :: r => maxI (if x > m then x else m) r
def minI : Int → List Int → Int
  | m, [] => m
  | m, x :: r => minI (if x < m then x else m) r
def maxL (b : Bool) : List Val → Option Rv
  | .int i :: r => (intsOf r).map fun js => .v (.int (if b then maxI i js else minI i js))
  | _ => none
/-- sorted: alike things, all of them tuples with an item, or none of them a tuple or None -/
def tupNE : Val → Bool
  | .tup (_ :: _) => true
  | _ => false
def notTN : Val → Bool
  | .bl _ => true
  | .int _ => true
  | .str _ => true
  | _ => false
def sortOk (xs : List Val) : Bool := Val.belL 0 xs && (xs.all fun a => xs.all fun b => PySem.W.alike a.pd b.pd) && (xs.all tupNE || xs.all notTN) && decide (xs.length ≤ sizeLine) && xs.all fun a => decide (a.pd.depth ≤ 60)
def sortV (xs : List Val) : List Val := xs.mergeSort fun a b => !PySem.W.dataLt b.pd a.pd
/-- one argument -/
def blt1 (S : Sto) : Bf → Rv → Option Rv
  | .len, .v (.str s) => if s.length ≤ sizeLine then some (.v (.int s.length)) else none
  | .len, r => (seqOf S r).map fun xs => .v (.int xs.length)
  | .abs, .v (.int i) => some (.v (.int (if i < 0 then -i else i)))
  | .max, r => (lstOf S r).bind (maxL true)
  | .min, r => (lstOf S r).bind (maxL false)
  | .sum, r => (lstOf S r).bind fun xs => (intsOf xs).map fun is => .v (.int is.sum)
  | .all, r => (lstOf S r).bind fun xs => (blsOf xs).map fun is => .v (.bl (is.all id))
  | .any, r => (lstOf S r).bind fun xs => (blsOf xs).map fun is => .v (.bl (is.any id))
  | .tuple, r => (seqOf S r).map fun xs => .v (.tup xs)
  | .list, r => match dicW S r with
    | some kvs => some (.t (.lst (kvs.map (·.1))))
    | none => (seqOf S r).map fun xs => .t (.lst xs)
  | .int, .v (.int i) => some (.v (.int i))
  | .int, .v (.bl i) => some (.v (.int (if i then 1 else 0)))
  | .int, .v (.str s) => match PySem.intText? s with
    | some n => if s.length ≤ 640 then some (.v (.int n)) else none
    | none => none
  | .sorted, r => (seqOf S r).bind fun xs => if sortOk xs = true then some (.t (.lst (sortV xs))) else none
  | .str, .v (.int i) => if i.natAbs.log2 < 1920 then some (.v (.str (toString i))) else none
  | _, _ => none
def bltR (S : Sto) (f : Bf) : List Rv → Option Rv
  | [r] => blt1 S f r
  | [.v (.int i), .v (.int j)] => match f with
    | .max => some (.v (.int (if j > i then j else i)))
    | .min => some (.v (.int (if j < i then j else i)))
    | _ => none
  | _ => none
def joinR (S : Sto) (m : Str) (r : Rv) : Option Val := (seqOf S r).bind fun xs => (strsOf xs).bind fun ys => if (ys.map (·.length)).sum + ys.length * m.length ≤ 16777216 then some (.str (Str.join m ys)) else none
def maxdR (S : Sto) (d : Int) (r : Rv) : Option Val := (lstOf S r).bind fun xs => (intsOf xs).map fun is => match is with
  | [] => .int d
  | i :: js => .int (js.foldl max i)
/-- the built-in class of a value -/
inductive Cl where
  | non | bl | int | str | tup | lst | dic
def Cl.name : Cl → String
  | .non => "NoneType"
  | .bl => "bool"
  | .int => "int"
  | .str => "str"
  | .tup => "tuple"
  | .lst => "list"
  | .dic => "dict"
def clsOf (S : Sto) : Rv → Option Cl
  | .v .non => some .non
  | .v (.bl _) => some .bl
  | .v (.int _) => some .int
  | .v (.str _) => some .str
  | .v (.tup _) => some .tup
  | .v (.fls _) => some .lst
  | .v (.ref l) => match S[l]? with
    | some (.lst _) => some .lst
    | some (.dic _) => some .dic
    | _ => none
  | .t (.lst _) => some .lst
  | .t (.dic _) => some .dic
  | .t (.ins _ _) => none
def isiB : Cl → Ty → Bool
  | .bl, .bl => true
  | .bl, .int => true
  | .int, .int => true
  | .str, .str => true
  | .tup, .tup => true
  | .lst, .lst => true
  | .dic, .dic => true
  | _, _ => false
def isiR (S : Sto) (r : Rv) (t : Ty) : Option Bool := (clsOf S r).map fun c => isiB c t
def isiTR (S : Sto) (r : Rv) (ts : List Ty) : Option Bool := (clsOf S r).map fun c => ts.any (isiB c)
/-- a new list that nobody writes any more -/
def frzR : Rv → Option Val
  | .v (.ref _) => none
  | .v x => some x
  | .t (.lst xs) => some (.fls xs)
  | .t _ => none
/-- an item -/
def ixR (S : Sto) (r : Rv) (i : Int) : Option Val := match r with
  | .v (.str s) => if s.length ≤ sizeLine then (L2.atI s.cps.toList i).map fun c => .str ⟨#[c]⟩ else none
  | r => match dicW S r with
    | some kvs => dval (.int i) kvs
    | none => (seqOf S r).bind fun xs => L2.atI xs i
def cutL (xs : List Val) (lo hi : Option Int) : List Val := (xs.drop (HT.sIx xs.length 0 lo)).take (HT.sIx xs.length xs.length hi - HT.sIx xs.length 0 lo)
def slR (S : Sto) (r : Rv) (lo hi : Option Int) : Option Rv := match r with
  | .v (.tup xs) => some (.v (.tup (cutL xs lo hi)))
  | .v (.str s) => if s.length ≤ sizeLine then some (.v (.str (L2.cutS s lo hi))) else none
  | r => (lstOf S r).map fun xs => .t (.lst (cutL xs lo hi))
def revR (S : Sto) (r : Rv) : Option Rv := match r with
  | .v (.tup xs) => some (.v (.tup xs.reverse))
  | r => (lstOf S r).map fun xs => .t (.lst xs.reverse)
/-- so often -/
def repR (S : Sto) (x y : Rv) : Option Rv := match y with
  | .v (.int k) => match lstW S x with
    | some xs => if -(2 ^ 63) ≤ k ∧ k < 2 ^ 63 ∧ xs.length * k.toNat ≤ sizeLine then some (.t (.lst (List.replicate k.toNat xs).flatten)) else none
    | none => none
  | _ => none
/-- methods of a list that stands in the store -/
def metR (m : Mf) (l : Nat) (args : List Val) (S : Sto) : Option (Rv × Sto) := match S[l]? with
  | some (.lst xs) => match m, args with
    | .append, [x] => if xs.length < sizeLine then some (.v .non, S.set l (.lst (xs ++ [x]))) else none
    | .pop, [] => (xs[xs.length - 1]?).map fun y => (.v y, S.set l (.lst xs.dropLast))
    | .pop, [.int i] => if -(2 ^ 63) ≤ i ∧ i < 2 ^ 63 then (seqIndex? i xs.length).bind fun k => (xs[k]?).map fun y => (.v y, S.set l (.lst (xs.eraseIdx k))) else none
    | .reverse, [] => some (.v .non, S.set l (.lst xs.reverse))
    | .clear, [] => some (.v .non, S.set l (.lst []))
    | _, _ => none
  | _ => none
def extR (l : Nat) (ys : Rv) (S : Sto) : Option (Rv × Sto) := match S[l]?, lstW S ys with
  | some (.lst xs), some zs => if xs.length + zs.length ≤ sizeLine then some (.v .non, S.set l (.lst (xs ++ zs))) else none
  | _, _ => none
def setIxR (l : Nat) (i : Int) (x : Val) (S : Sto) : Option Sto := match S[l]? with
  | some (.lst xs) => (L2.ixN xs.length i).map fun j => S.set l (.lst (xs.set j x))
  | some (.dic kvs) => if kvs.length < sizeLine then some (S.set l (.dic (dput (.int i) x kvs))) else none
  | _ => none
def setKeyR (l : Nat) (k : Str) (x : Val) (S : Sto) : Option Sto := match S[l]? with
  | some (.dic kvs) => if kvs.length < sizeLine then some (S.set l (.dic (dput (.str k) x kvs))) else none
  | _ => none

/-! ### environments, targets -/
abbrev Env := List (Option Val)
def lay : Rv → Sto → Val × Sto
  | .v x, S => (x, S)
  | .t o, S => (.ref S.length, S ++ [o])
mutual
def asgT : Tg → Val → Env → Option Env
  | .n i, x, env => some (env.set i (some x))
  | .t ts, .tup xs, env => asgTs ts xs env
  | .t _, _, _ => none
def asgTs : List Tg → List Val → Env → Option Env
  | [], [], env => some env
  | t :: ts, x :: xs, env => (asgT t x env).bind fun env' => asgTs ts xs env'
  | _, _, _ => none
end
/-- a list that is unpacked -/
def asgL : Tg → List Val → Env → Option Env
  | .t ts, xs, env => asgTs ts xs env
  | .n _, _, _ => none
def wipeE (env : Env) : List Nat → Env
  | [] => env
  | v :: vs => (wipeE env vs).set v none
/-- what a loop walks: the items, and the lists of the store that must stand still -/
structure Src where
  items : List Val
  live : List (Nat × List Val)
def liveOk (S : Sto) : List (Nat × List Val) → Prop
  | [] => True
  | (l, xs) :: r => S[l]? = some (.lst xs) ∧ liveOk S r
open Classical in
noncomputable def guardL {α : Type} (live : List (Nat × List Val)) (S : Sto) (r : Res α) : Res α := if liveOk S live then r else .bad
theorem guardL_nil {α : Type} (S : Sto) (r : Res α) : guardL [] S r = r := by
  unfold guardL
  rw [if_pos (show liveOk S [] from trivial)]
theorem guardL_pos {α : Type} {live : List (Nat × List Val)} {S : Sto} (r : Res α) (h : liveOk S live) : guardL live S r = r := by
  unfold guardL
  rw [if_pos h]
def srcOf (S : Sto) : Rv → Option Src
  | .v (.tup xs) => some ⟨xs, []⟩
  | .v (.fls xs) => some ⟨xs, []⟩
  | .v (.str s) => some ⟨s.cps.toList.map fun c => .str ⟨#[c]⟩, []⟩
  | .t (.lst xs) => some ⟨xs, []⟩
  | .v (.ref l) => match S[l]? with
    | some (.lst xs) => some ⟨xs, [(l, xs)]⟩
    | _ => none
  | _ => none
def rngL (lo : Int) (n : Nat) : List Val := (List.range n).map fun (i : Nat) => .int (lo + i)
def rngOk (i : Int) : Bool := decide (-(2 ^ 62) ≤ i) && decide (i < 2 ^ 62)
def rangeR : List Rv → Option Src
  | [.v (.int j)] => if rngOk j = true then some ⟨rngL 0 j.toNat, []⟩ else none
  | [.v (.int i), .v (.int j)] => if rngOk i = true ∧ rngOk j = true then some ⟨rngL i (j - i).toNat, []⟩ else none
  | _ => none
def revRng (s : Src) : Src := ⟨s.items.reverse, []⟩
def enumFrom : Nat → List Val → List Val
  | _, [] => []
  | i, x :: r => .tup [.int (i : Nat), x] :: enumFrom (i + 1) r
def zipV : List Val → List Val → List Val
  | x :: xs, y :: ys => .tup [x, y] :: zipV xs ys
  | _, _ => []
def isTup : Rv → Bool
  | .v (.tup _) => true
  | _ => false
def isLst (S : Sto) (r : Rv) : Bool := (lstOf S r).isSome

/-- a comprehension's turns -/
noncomputable def compL (cond : Env → Sto → Res Bool) (elt : Env → Sto → Res Rv) (tg : Tg) (env : Env) (live : List (Nat × List Val)) : List Val → List Val → Sto → Res Rv
  | [], acc, S => guardL live S (.ok (.t (.lst acc)) S)
  | x :: xs, acc, S => guardL live S (match asgT tg x env with
    | none => .bad
    | some env1 => (cond env1 S).bind fun b S1 => if b = true then (elt env1 S1).bind fun r S2 => compL cond elt tg env live xs (acc ++ [(lay r S2).1]) (lay r S2).2 else compL cond elt tg env live xs acc S1)

/-! ### functions -/
abbrev Fns := Str → List Val → Sto → Res Rv
/-- what a call leaves: objects that nobody can reach any more are dropped -/
def cut (n : Nat) (r : Rv) (S : Sto) : Res Rv :=
  if belS n (S.take n) = true then
    match r with
    | .v (.ref l) => if l < n then .ok r (S.take n) else match S[l]? with
      | some o => if o.bel n = true then .ok (.t o) (S.take n) else .ok r S
      | none => .ok r S
    | r => if r.bel n = true then .ok r (S.take n) else .ok r S
  else .ok r S

/-! ### the interpreter of expressions -/
abbrev Ev (α : Type) := Env → Sto → Res α
def tst (f : Ev Rv) : Ev Bool := fun env S => (f env S).bind fun x S => .of (truR S x) S
def dup (f : Ev Rv) : Ev Rv × Ev Bool := (f, tst f)
mutual
/-- an expression as a value and as a test -/
noncomputable def ev2 (T : Fns) : E → Ev Rv × Ev Bool
  | .var i => dup fun env S => match env[i]? with
    | some (some x) => .ok (.v x) S
    | _ => .bad
  | .cst x => dup fun _ S => .ok (.v x) S
  | .glb _ x => dup fun _ S => .ok (.v x) S
  | .tup es => dup fun env S => (evA T es env S).bind fun xs S => .ok (.v (.tup xs)) S
  | .lst es => dup fun env S => (evA T es env S).bind fun xs S => .ok (.t (.lst xs)) S
  | .dic0 => dup fun _ S => .ok (.t (.dic [])) S
  | .join m a => dup fun env S => ((ev2 T a).1 env S).bind fun x S => (Res.of (joinR S m x) S).bind fun z S => .ok (.v z) S
  | .maxd a d => dup fun env S => ((ev2 T a).1 env S).bind fun x S => (Res.of (maxdR S d x) S).bind fun z S => .ok (.v z) S
  | .bin o a b => dup fun env S => ((ev2 T a).1 env S).bind fun x S => ((ev2 T b).1 env S).bind fun y S => .of (binR S o x y) S
  | .neg a => dup fun env S => ((ev2 T a).1 env S).bind fun x S => match x with
    | .v (.int i) => .ok (.v (.int (-i))) S
    | _ => .bad
  | .cmp o a b => dup fun env S => ((ev2 T a).1 env S).bind fun x S => ((ev2 T b).1 env S).bind fun y S => (Res.of (cmpR S o x y) S).bind fun k S => .ok (.v (.bl k)) S
  | .and a b => (fun env S => ((ev2 T a).1 env S).bind fun x S => (Res.of (truR S x) S).bind fun k S => if k = true then (ev2 T b).1 env S else .ok x S,
      fun env S => ((ev2 T a).2 env S).bind fun k S => if k = true then (ev2 T b).2 env S else .ok false S)
  | .or a b => (fun env S => ((ev2 T a).1 env S).bind fun x S => (Res.of (truR S x) S).bind fun k S => if k = true then .ok x S else (ev2 T b).1 env S,
      fun env S => ((ev2 T a).2 env S).bind fun k S => if k = true then .ok true S else (ev2 T b).2 env S)
  | .not a => (fun env S => ((ev2 T a).1 env S).bind fun x S => (Res.of (truR S x) S).bind fun k S => .ok (.v (.bl (!k))) S,
      fun env S => ((ev2 T a).2 env S).bind fun k S => .ok (!k) S)
  | .ite c a b => dup fun env S => ((ev2 T c).2 env S).bind fun k S => if k = true then (ev2 T a).1 env S else (ev2 T b).1 env S
  | .call f es => dup fun env S => (evA T es env S).bind fun xs S1 => (T f xs S1).bind fun r S2 => cut S.length r S2
  | .blt f es => dup fun env S => (evR T es env S).bind fun rs S => .of (bltR S f rs) S
  | .isi a t => dup fun env S => ((ev2 T a).1 env S).bind fun x S => (Res.of (isiR S x t) S).bind fun k S => .ok (.v (.bl k)) S
  | .isiT a ts => dup fun env S => ((ev2 T a).1 env S).bind fun x S => (Res.of (isiTR S x ts) S).bind fun k S => .ok (.v (.bl k)) S
  | .fz a => dup fun env S => ((ev2 T a).1 env S).bind fun x S => (Res.of (frzR x) S).bind fun z S => .ok (.v z) S
  | .call0 f => dup fun _ S => ((T f [] S).nox).bind fun r S2 => cut S.length r S2
  | .met m o es => dup fun env S => ((ev2 T o).1 env S).bind fun x S => match x with
    | .v (.ref l) => match S[l]? with
      | some (.lst _) => (evA T es env S).bind fun xs S => (Res.of (metR m l xs S) S).bind fun p _ => .ok p.1 p.2
      | _ => .bad
    | _ => .bad
  | .ext o a => dup fun env S => ((ev2 T o).1 env S).bind fun x S => match x with
    | .v (.ref l) => match S[l]? with
      | some (.lst _) => ((ev2 T a).1 env S).bind fun y S => (Res.of (extR l y S) S).bind fun p _ => .ok p.1 p.2
      | _ => .bad
    | _ => .bad
  | .ix a i => dup fun env S => ((ev2 T a).1 env S).bind fun x S => ((ev2 T i).1 env S).bind fun y S => match y with
    | .v (.int i) => (Res.of (ixR S x i) S).bind fun z S => .ok (.v z) S
    | .v (.str k) => (Res.of ((dicW S x).bind (dval (.str k))) S).bind fun z S => .ok (.v z) S
    | _ => .bad
  | .sl a lo hi => dup fun env S => ((ev2 T a).1 env S).bind fun x S => (evO T lo env S).bind fun l S => (evO T hi env S).bind fun h S => .of (slR S x l h) S
  | .rev a => dup fun env S => ((ev2 T a).1 env S).bind fun x S => .of (revR S x) S
  | .rep a b => dup fun env S => ((ev2 T a).1 env S).bind fun x S => ((ev2 T b).1 env S).bind fun y S => .of (repR S x y) S
  | .comp own tg it c e => dup fun env S => (evI T it env S).bind fun src S => if src.items.length ≤ sizeLine then (compL (evC T c) (ev2 T e).1 tg (wipeE env own) src.live src.items [] S).nox else .bad
noncomputable def evA (T : Fns) : Es → Ev (List Val)
  | .nil => fun _ S => .ok [] S
  | .cons e r => fun env S => ((ev2 T e).1 env S).bind fun x S => (evA T r env (lay x S).2).bind fun xs S' => .ok ((lay x S).1 :: xs) S'
noncomputable def evR (T : Fns) : Es → Ev (List Rv)
  | .nil => fun _ S => .ok [] S
  | .cons e r => fun env S => ((ev2 T e).1 env S).bind fun x S => (evR T r env S).bind fun xs S => .ok (x :: xs) S
noncomputable def evO (T : Fns) : Eo → Ev (Option Int)
  | .none => fun _ S => .ok none S
  | .some e => fun env S => ((ev2 T e).1 env S).bind fun x S => match x with
    | .v (.int i) => .ok (some i) S
    | _ => .bad
noncomputable def evC (T : Fns) : Eo → Ev Bool
  | .none => fun _ S => .ok true S
  | .some e => (ev2 T e).2
noncomputable def evI (T : Fns) : It → Ev Src
  | .e a => fun env S => ((ev2 T a).1 env S).bind fun x S => .of (srcOf S x) S
  | .rg1 a => fun env S => ((ev2 T a).1 env S).bind fun x S => .of (rangeR [x]) S
  | .rg2 a b => fun env S => ((ev2 T a).1 env S).bind fun x S => ((ev2 T b).1 env S).bind fun y S => .of (rangeR [x, y]) S
  | .enum a => fun env S => ((ev2 T a).1 env S).bind fun x S => (Res.of (if (isLst S x || isTup x) = true then srcOf S x else none) S).bind fun s S => .ok ⟨enumFrom 0 s.items, s.live⟩ S
  | .zip a b => fun env S => ((ev2 T a).1 env S).bind fun x S => ((ev2 T b).1 env S).bind fun y S => (Res.of (if (isTup x && isTup y || isLst S x && isLst S y) = true then srcOf S x else none) S).bind fun s S => (Res.of (srcOf S y) S).bind fun s' S => .ok ⟨zipV s.items s'.items, s.live ++ s'.live⟩ S
  | .rvr a => fun env S => ((ev2 T a).1 env S).bind fun x S => (Res.of (rangeR [x]) S).bind fun s S => .ok (revRng s) S
  | .rv a => fun env S => ((ev2 T a).1 env S).bind fun x S => (Res.of (if isLst S x = true then srcOf S x else none) S).bind fun s S => .ok ⟨s.items.reverse, s.live⟩ S
end
noncomputable abbrev evE (T : Fns) (e : E) : Ev Rv := (ev2 T e).1
noncomputable abbrev evT (T : Fns) (e : E) : Ev Bool := (ev2 T e).2

/-- x op= y, x and y ints or texts -/
def augR : Bop → Val → Rv → Option Val
  | .add, .int i, .v (.int j) => some (.int (i + j))
  | .add, .str a, .v (.str b) => if a.length + b.length ≤ sizeLine then some (.str (a ++ b)) else none
  | .sub, .int i, .v (.int j) => some (.int (i - j))
  | .mul, .int i, .v (.int j) => if mulOk i j = true then some (.int (i * j)) else none
  | _, _, _ => none

/-! ### statements -/
inductive Fl where
  | nx | rt (r : Rv) | bk | ct
inductive SR where
  | ok (f : Fl) (env : Env) (S : Sto)
  | exc (x : Exn) (env : Env) (S : Sto)
  | bad
def SR.bind (r : SR) (f : Env → Sto → SR) : SR := match r with
  | .ok .nx env S => f env S
  | r => r
/-- an expression within a statement -/
def Res.st {α : Type} (r : Res α) (env : Env) (f : α → Sto → SR) : SR := match r with
  | .ok a S => f a S
  | .exc x S => .exc x env S
  | .bad => .bad
open Classical in
noncomputable def guardS (live : List (Nat × List Val)) (S : Sto) (r : SR) : SR := if liveOk S live then r else .bad
theorem guardS_nil (S : Sto) (r : SR) : guardS [] S r = r := by
  unfold guardS
  rw [if_pos (show liveOk S [] from trivial)]
theorem guardS_pos {live : List (Nat × List Val)} {S : Sto} (r : SR) (h : liveOk S live) : guardS live S r = r := by
  unfold guardS
  rw [if_pos h]
noncomputable def forL (body : Env → Sto → SR) (tg : Tg) (live : List (Nat × List Val)) : List Val → Env → Sto → SR
  | [], env, S => guardS live S (.ok .nx env S)
  | x :: xs, env, S => guardS live S (match asgT tg x env with
    | none => .bad
    | some env1 => match body env1 S with
      | .ok .nx env2 S2 => forL body tg live xs env2 S2
      | .ok .ct env2 S2 => forL body tg live xs env2 S2
      | .ok .bk env2 S2 => .ok .nx env2 S2
      | r => r)
noncomputable def whL (cond : Env → Sto → Res Bool) (body : Env → Sto → SR) : Nat → Env → Sto → SR
  | 0, _, _ => .bad
  | n + 1, env, S => (cond env S).st env fun k S1 => if k = true then match body env S1 with
      | .ok .nx env2 S2 => whL cond body n env2 S2
      | .ok .ct env2 S2 => whL cond body n env2 S2
      | .ok .bk env2 S2 => .ok .nx env2 S2
      | r => r
    else .ok .nx env S1
/-- more turns than any while takes -/
def whFuel : Nat := 1000000000
/-- what a handler tells that asks for classes alone -/
def hndl (sups : List Str) : List (List Str) → Str → Str → Bool
  | [], p, q => sups.contains p && sups.contains q
  | l :: r, p, q => if (l.any fun n => sups.contains n) = true then false else hndl sups r p q
/-- an error that meets a handler -/
def meetE (tb : List (Str × List Str)) (c : Str) (ifs : List (List Str)) (p q : Str) : SR → SR
  | .exc x env S => match tb.lookup x.cls with
    | some sups => if sups.contains c = true then .ok (.rt (.v (.bl (hndl sups ifs p q)))) env S else .exc x env S
    | none => .bad
  | r => r
/-- behind a handler its name is gone -/
def hEnd (i : Nat) : SR → SR
  | .ok f env S => .ok f (env.set i none) S
  | _ => .bad
def meetH (f : Exn → Env → Sto → SR) : SR → SR
  | .exc x env S => f x env S
  | r => r
mutual
noncomputable def evS (T : Fns) : C → Env → Sto → SR
  | .set i e, env, S => (evE T e env S).st env fun r S => .ok .nx (env.set i (some (lay r S).1)) (lay r S).2
  | .asg t e, env, S => (evE T e env S).st env fun r S => match r with
    | .v x => match asgT t x env with
      | some env' => .ok .nx env' S
      | none => match (lstW S (.v x)).bind fun xs => asgL t xs env with
        | some env' => .ok .nx env' S
        | none => .bad
    | .t (.lst xs) => match asgL t xs env with
      | some env' => .ok .nx env' S
      | none => .bad
    | _ => .bad
  | .par i j a b, env, S => (evA T (.cons a (.cons b .nil)) env S).st env fun xs S => match xs with
    | [x, y] => .ok .nx ((env.set i (some x)).set j (some y)) S
    | _ => .bad
  | .setIx o i e, env, S => (evE T e env S).st env fun r S => (evE T o env (lay r S).2).st env fun x S' => (evE T i env S').st env fun y S' => match x, y with
    | .v (.ref l), .v (.int k) => match setIxR l k (lay r S).1 S' with
      | some S'' => .ok .nx env S''
      | none => .bad
    | .v (.ref l), .v (.str k) => match setKeyR l k (lay r S).1 S' with
      | some S'' => .ok .nx env S''
      | none => .bad
    | _, _ => .bad
  | .aug i o e, env, S => match env[i]? with
    | some (some x) => (evE T e env S).st env fun y S => (Res.of (augR o x y) S).st env fun z S => .ok .nx (env.set i (some z)) S
    | _ => .bad
  | .ex e, env, S => (evE T e env S).st env fun _ S => .ok .nx env S
  | .ret .none, env, S => .ok (.rt (.v .non)) env S
  | .ret (.some e), env, S => (evE T e env S).st env fun r S => .ok (.rt r) env S
  | .ite c a b, env, S => (evT T c env S).st env fun k S => if k = true then evB T a env S else evB T b env S
  | .wh c b, env, S => whL (evT T c) (evB T b) whFuel env S
  | .for t it b, env, S => (evI T it env S).st env fun src S => forL (evB T b) t src.live src.items env S
  | .pass, env, S => .ok .nx env S
  | .cont, env, S => .ok .ct env S
  | .brk, env, S => .ok .bk env S
  | .rse c _, env, S => .exc ⟨c, []⟩ env S
  | .tryE tb b c _ ifs p q, env, S => meetE tb c ifs p q (evB T b env S)
  | .tryH ps b c i hs, env, S => meetH (evH T hs ps i) (evB T b env S)
  | .never, _, _ => .bad
noncomputable def evB (T : Fns) : Cs → Env → Sto → SR
  | .nil, env, S => .ok .nx env S
  | .cons c r, env, S => (evS T c env S).bind fun env S => evB T r env S
  | .kill _ r, env, S => evB T r env S
noncomputable def evH (T : Fns) : Hl → List Str → Nat → Exn → Env → Sto → SR
  | .nil, ps, _, x, env, S => if ps.contains x.cls = true then .exc x env S else .bad
  | .cons c b r, ps, i, x, env, S => if x.cls = c then hEnd i (evB T b (env.set i none) S) else evH T r ps i x env S
end
/-! ### a program -/
structure Fd where
  np : Nat
  n : Nat
  body : Cs
def startE (n : Nat) (xs : List Val) : Env := xs.map some ++ List.replicate (n - xs.length) none
noncomputable def runD (T : Fns) (d : Fd) (xs : List Val) (S : Sto) : Res Rv :=
  if xs.length = d.np then match evB T d.body (startE d.n xs) S with
    | .ok (.rt r) _ S' => .ok r S'
    | .ok .nx _ S' => .ok (.v .non) S'
    | .exc x _ S' => .exc x S'
    | _ => .bad
  else .bad
noncomputable def run (P : Str → Option Fd) : Nat → Fns
  | 0 => fun _ _ _ => .bad
  | k + 1 => fun f xs S => match P f with
    | some d => runD (run P k) d xs S
    | none => .bad
end Fe

/-! Fe1: how abstract values stand for the machine's -/
namespace Fe
open PySem L2

/-- a list that is read and never written -/
def SqF (K : PySem.W.Frag) (H : Hp) (a : Addr) (vs : List V) : Prop :=
  (∃ o, H a = some (.frz o (.lst vs))) ∨
    ∃ (o : Obj) (its : Array Value) (n : Nat), K.lookup a = some o ∧ o.cls = .type "list" ∧ o.dict = none ∧ o.data = .seq its n ∧ its.size ≤ sizeLine ∧ Vals vs its.toList
theorem SqF.sq {K : PySem.W.Frag} {H : Hp} {a : Addr} {vs : List V} (h : SqF K H a vs) : SqL K H a vs := by
  rcases h with ⟨o, h⟩ | h
  · exact .inl (.inr ⟨o, h⟩)
  · exact .inr h
mutual
inductive RV (K : PySem.W.Frag) (ρ : List Addr) (H : Hp) : V → Val → Prop
  | non : RV K ρ H .non .non
  | bl (b : Bool) : RV K ρ H (.bl b) (.bl b)
  | int (i : Int) : RV K ρ H (.int i) (.int i)
  | str (s : Str) : RV K ρ H (.str s) (.str s)
  | tup {a : Addr} {vs : List V} {xs : List Val} : SqT K H a vs → RVs K ρ H vs xs → RV K ρ H (.ref a) (.tup xs)
  | fls {a : Addr} {vs : List V} {xs : List Val} : SqF K H a vs → RVs K ρ H vs xs → RV K ρ H (.ref a) (.fls xs)
  | ref {a : Addr} {l : Nat} : ρ[l]? = some a → RV K ρ H (.ref a) (.ref l)
inductive RVs (K : PySem.W.Frag) (ρ : List Addr) (H : Hp) : List V → List Val → Prop
  | nil : RVs K ρ H [] []
  | cons {v : V} {vs : List V} {x : Val} {xs : List Val} : RV K ρ H v x → RVs K ρ H vs xs → RVs K ρ H (v :: vs) (x :: xs)
end
/-- a dict's key: an int or a text -/
def keyOf : Val → Option Key
  | .int i => some (.inl i)
  | .str s => some (.inr s)
  | _ => none
inductive RKV (K : PySem.W.Frag) (ρ : List Addr) (H : Hp) : List (Key × V) → List (Val × Val) → Prop
  | nil : RKV K ρ H [] []
  | cons {k : Key} {v : V} {r : List (Key × V)} {kx x : Val} {s : List (Val × Val)} : keyOf kx = some k → RV K ρ H v x → RKV K ρ H r s → RKV K ρ H ((k, v) :: r) ((kx, x) :: s)
/-- an object of the store -/
def RO (K : PySem.W.Frag) (ρ : List Addr) (H : Hp) (a : Addr) : Ob → Prop
  | .lst xs => ∃ vs, H a = some (.lst vs) ∧ RVs K ρ H vs xs
  | .dic kvs => ∃ ks, H a = some (.dK ks) ∧ RKV K ρ H ks kvs
  | .ins _ _ => False
def RR (K : PySem.W.Frag) (ρ : List Addr) (H : Hp) (v : V) : Rv → Prop
  | .v x => RV K ρ H v x
  | .t o => ∃ a, v = .ref a ∧ a ∉ ρ ∧ RO K ρ H a o
structure RS (K : PySem.W.Frag) (ρ : List Addr) (H : Hp) (S : Sto) : Prop where
  len : ρ.length = S.length
  nd : ρ.Nodup
  at' : ∀ (l : Nat) (a : Addr) (o : Ob), ρ[l]? = some a → S[l]? = some o → RO K ρ H a o
structure Ext (ρ : List Addr) (H : Hp) (ρ' : List Addr) (H' : Hp) : Prop where
  more : ∃ r, ρ' = ρ ++ r ∧ ∀ a ∈ r, H a = none
  keep : ∀ a o, H a = some o → a ∉ ρ → H' a = some o
  dom : ∀ a, H' a = none → H a = none
structure RE (K : PySem.W.Frag) (ρ : List Addr) (H : Hp) (σ : St) (env : Env) : Prop where
  len : σ.length = env.length
  at' : ∀ (i : Nat) x, env[i]? = some (some x) → ∃ v, σ[i]? = some (some v) ∧ RV K ρ H v x

section
variable {K : PySem.W.Frag} {ρ ρ' ρ'' : List Addr} {H H' H'' : Hp} {S S' : Sto}
theorem RO.mut {a : Addr} {o : Ob} (h : RO K ρ H a o) : ∃ u, H a = some u ∧ (∀ vs, u ≠ .tup vs) ∧ (∀ ob w, u ≠ .frz ob w) := by
  cases o with
  | lst xs => obtain ⟨vs, e, _⟩ := h; exact ⟨_, e, (fun _ z => nomatch z), (fun _ _ z => nomatch z)⟩
  | dic kvs => obtain ⟨vs, e, _⟩ := h; exact ⟨_, e, (fun _ z => nomatch z), (fun _ _ z => nomatch z)⟩
  | ins c fs => exact h.elim
theorem RS.mut (R : RS K ρ H S) {a : Addr} (ha : a ∈ ρ) : ∃ u, H a = some u ∧ (∀ vs, u ≠ .tup vs) ∧ (∀ ob w, u ≠ .frz ob w) := by
  obtain ⟨l, hl, e⟩ := List.getElem_of_mem ha
  have hl' : l < S.length := by rw [← R.len]; exact hl
  exact (R.at' l a S[l] (by rw [List.getElem?_eq_getElem hl, e]) (List.getElem?_eq_getElem hl')).mut
theorem RS.notin_none (R : RS K ρ H S) {a : Addr} (h : H a = none) : a ∉ ρ := fun z => by
  obtain ⟨u, e, _⟩ := R.mut z
  rw [h] at e
  cases e
theorem RS.notin_tup (R : RS K ρ H S) {a : Addr} {vs : List V} (h : H a = some (.tup vs)) : a ∉ ρ := fun z => by
  obtain ⟨u, e, t, _⟩ := R.mut z
  rw [h] at e
  cases e
  exact t vs rfl
theorem RS.notin_frz (R : RS K ρ H S) {a : Addr} {ob : Obj} {w : HO} (h : H a = some (.frz ob w)) : a ∉ ρ := fun z => by
  obtain ⟨u, e, _, t⟩ := R.mut z
  rw [h] at e
  cases e
  exact t ob w rfl
theorem Ext.refl : Ext ρ H ρ H := ⟨⟨[], by simp, by simp⟩, fun _ _ h _ => h, fun _ h => h⟩
theorem Ext.pre (e : Ext ρ H ρ' H') {l : Nat} {a : Addr} (h : ρ[l]? = some a) : ρ'[l]? = some a := by
  obtain ⟨r, rfl, _⟩ := e.more
  rw [List.getElem?_append_left (by exact (List.getElem?_eq_some_iff.mp h).1)]
  exact h
theorem Ext.notin (e : Ext ρ H ρ' H') {a : Addr} {o : HO} (h : H a = some o) (n : a ∉ ρ) : a ∉ ρ' := by
  obtain ⟨r, rfl, hr⟩ := e.more
  intro z
  rcases List.mem_append.mp z with z | z
  · exact n z
  · have := hr a z
    rw [h] at this
    cases this
theorem Ext.trans (e : Ext ρ H ρ' H') (f : Ext ρ' H' ρ'' H'') : Ext ρ H ρ'' H'' := by
  obtain ⟨r, hr, h1⟩ := e.more
  obtain ⟨r2, hr2, h2⟩ := f.more
  refine ⟨⟨r ++ r2, by rw [hr2, hr, List.append_assoc], fun a ha => ?_⟩, fun a o h n => f.keep a o (e.keep a o h n) (e.notin h n), fun a h => e.dom a (f.dom a h)⟩
  rcases List.mem_append.mp ha with z | z
  · exact h1 a z
  · exact e.dom a (h2 a z)
theorem SqT.ext {a : Addr} {vs : List V} (R : RS K ρ H S) (e : Ext ρ H ρ' H') (h : SqT K H a vs) : SqT K H' a vs := by
  rcases h with (h | ⟨o, h⟩) | h
  · exact .inl (.inl (e.keep _ _ h (R.notin_tup h)))
  · exact .inl (.inr ⟨o, e.keep _ _ h (R.notin_frz h)⟩)
  · exact .inr h
theorem SqF.ext {a : Addr} {vs : List V} (R : RS K ρ H S) (e : Ext ρ H ρ' H') (h : SqF K H a vs) : SqF K H' a vs := by
  rcases h with ⟨o, h⟩ | h
  · exact .inl ⟨o, e.keep _ _ h (R.notin_frz h)⟩
  · exact .inr h
mutual
theorem RV.ext (R : RS K ρ H S) (e : Ext ρ H ρ' H') : ∀ {v : V} {x : Val}, RV K ρ H v x → RV K ρ' H' v x
  | _, _, .non => .non
  | _, _, .bl b => .bl b
  | _, _, .int b => .int b
  | _, _, .str b => .str b
  | _, _, .tup h r => .tup (SqT.ext R e h) (RVs.ext R e r)
  | _, _, .fls h r => .fls (SqF.ext R e h) (RVs.ext R e r)
  | _, _, .ref h => .ref (e.pre h)
theorem RVs.ext (R : RS K ρ H S) (e : Ext ρ H ρ' H') : ∀ {v : List V} {x : List Val}, RVs K ρ H v x → RVs K ρ' H' v x
  | _, _, .nil => .nil
  | _, _, .cons h r => .cons (RV.ext R e h) (RVs.ext R e r)
end
theorem RKV.ext (R : RS K ρ H S) (e : Ext ρ H ρ' H') {ks : List (Key × V)} {kvs : List (Val × Val)} (h : RKV K ρ H ks kvs) : RKV K ρ' H' ks kvs := by
  induction h with
  | nil => exact .nil
  | cons h1 h2 _ ih => exact .cons h1 (h2.ext R e) ih
theorem RO.ext (R : RS K ρ H S) (e : Ext ρ H ρ' H') {a : Addr} {o : Ob} (n : a ∉ ρ) (h : RO K ρ H a o) : RO K ρ' H' a o := by
  cases o with
  | lst xs => obtain ⟨vs, h1, h2⟩ := h; exact ⟨vs, e.keep _ _ h1 n, h2.ext R e⟩
  | dic kvs => obtain ⟨vs, h1, h2⟩ := h; exact ⟨vs, e.keep _ _ h1 n, h2.ext R e⟩
  | ins c fs => exact h.elim
theorem RR.ext (R : RS K ρ H S) (e : Ext ρ H ρ' H') {v : V} {x : Rv} (h : RR K ρ H v x) : RR K ρ' H' v x := by
  cases x with
  | v x => exact RV.ext R e h
  | t o =>
    obtain ⟨a, rfl, n, h⟩ := h
    obtain ⟨u, hu, _⟩ := h.mut
    exact ⟨a, rfl, e.notin hu n, h.ext R e n⟩
theorem RE.ext (R : RS K ρ H S) (e : Ext ρ H ρ' H') {σ : St} {env : Env} (h : RE K ρ H σ env) : RE K ρ' H' σ env :=
  ⟨h.len, fun i x hx => let ⟨v, h1, h2⟩ := h.at' i x hx; ⟨v, h1, h2.ext R e⟩⟩

/-! lengths, items -/
theorem RVs.length : ∀ {vs : List V} {xs : List Val}, RVs K ρ H vs xs → vs.length = xs.length
  | _, _, .nil => rfl
  | _, _, .cons _ r => by rw [List.length_cons, List.length_cons, RVs.length r]
theorem RVs.get : ∀ {vs : List V} {xs : List Val} {i : Nat} {x : Val}, RVs K ρ H vs xs → xs[i]? = some x → ∃ v, vs[i]? = some v ∧ RV K ρ H v x
  | _, _, _, _, .nil, e => by simp at e
  | _, _, 0, _, .cons r _, e => by simp at e; subst e; exact ⟨_, rfl, r⟩
  | _, _, i + 1, x, .cons _ t, e => by
    obtain ⟨u, h1, h2⟩ := RVs.get (i := i) (x := x) t (by simpa using e)
    exact ⟨u, by simpa using h1, h2⟩
theorem RVs.append : ∀ {vs ws : List V} {xs ys : List Val}, RVs K ρ H vs xs → RVs K ρ H ws ys → RVs K ρ H (vs ++ ws) (xs ++ ys)
  | _, _, _, _, .nil, s => s
  | _, _, _, _, .cons r t, s => .cons r (RVs.append t s)
theorem RVs.take : ∀ {vs : List V} {xs : List Val} (n : Nat), RVs K ρ H vs xs → RVs K ρ H (vs.take n) (xs.take n)
  | _, _, 0, _ => .nil
  | _, _, _ + 1, .nil => .nil
  | _, _, n + 1, .cons r t => .cons r (RVs.take n t)
theorem RVs.drop : ∀ {vs : List V} {xs : List Val} (n : Nat), RVs K ρ H vs xs → RVs K ρ H (vs.drop n) (xs.drop n)
  | _, _, 0, r => r
  | _, _, _ + 1, .nil => .nil
  | _, _, n + 1, .cons _ t => RVs.drop n t
theorem RVs.set {v : V} {x : Val} (r : RV K ρ H v x) : ∀ {vs : List V} {xs : List Val} (i : Nat), RVs K ρ H vs xs → RVs K ρ H (vs.set i v) (xs.set i x)
  | _, _, _, .nil => .nil
  | _, _, 0, .cons _ t => .cons r t
  | _, _, i + 1, .cons q t => .cons q (RVs.set r i t)
theorem RVs.reverse {vs : List V} {xs : List Val} (h : RVs K ρ H vs xs) : RVs K ρ H vs.reverse xs.reverse := by
  induction vs generalizing xs with
  | nil => cases h; exact .nil
  | cons v vs ih =>
    cases h with
    | cons r t =>
      rw [List.reverse_cons, List.reverse_cons]
      exact (ih t).append (.cons r .nil)
theorem RVs.eraseIdx : ∀ {vs : List V} {xs : List Val} (i : Nat), RVs K ρ H vs xs → RVs K ρ H (vs.eraseIdx i) (xs.eraseIdx i)
  | _, _, _, .nil => .nil
  | _, _, 0, .cons _ t => t
  | _, _, i + 1, .cons q t => .cons q (RVs.eraseIdx i t)
theorem RVs.dropLast {vs : List V} {xs : List Val} (h : RVs K ρ H vs xs) : RVs K ρ H vs.dropLast xs.dropLast := by
  rw [List.dropLast_eq_take, List.dropLast_eq_take, h.length]
  exact h.take _
theorem RVs.mem {vs : List V} {xs : List Val} (h : RVs K ρ H vs xs) {x : Val} (hx : x ∈ xs) : ∃ v, v ∈ vs ∧ RV K ρ H v x := by
  obtain ⟨i, hi, e⟩ := List.getElem_of_mem hx
  obtain ⟨v, h1, h2⟩ := h.get (i := i) (x := x) (by rw [List.getElem?_eq_getElem hi, e])
  exact ⟨v, List.mem_of_getElem? h1, h2⟩

/-! ### the store -/
/-- a new object of the heap that the store does not hold -/
theorem Ext.new {p : Addr} {o : HO} (h : H p = none) : Ext ρ H ρ (upd H p o) :=
  ⟨⟨[], by simp, by simp⟩, fun a u q _ => by rw [upd_ne (ne_of_none q h)]; exact q, fun a q => by
    by_cases e : a = p
    · rw [e]; exact h
    · rw [upd_ne e] at q; exact q⟩
theorem RO.keep {a : Addr} {o : Ob} (R : RS K ρ H S) (e : Ext ρ H ρ' H') (s : ∀ u, H a = some u → H' a = some u) (h : RO K ρ H a o) : RO K ρ' H' a o := by
  cases o with
  | lst xs => obtain ⟨vs, h1, h2⟩ := h; exact ⟨vs, s _ h1, h2.ext R e⟩
  | dic kvs => obtain ⟨vs, h1, h2⟩ := h; exact ⟨vs, s _ h1, h2.ext R e⟩
  | ins c fs => exact h.elim
theorem RS.new {p : Addr} {o : HO} (R : RS K ρ H S) (h : H p = none) : RS K ρ (upd H p o) S :=
  ⟨R.len, R.nd, fun l a ob h1 h2 => (R.at' l a ob h1 h2).keep R (Ext.new h) fun u q => by rw [upd_ne (ne_of_none q h)]; exact q⟩
/-- a new object joins the store -/
theorem Ext.join {H0 : Hp} {a : Addr} (e : Ext ρ H0 ρ' H') (n : H0 a = none) : Ext ρ H0 (ρ' ++ [a]) H' := by
  obtain ⟨r, hr, h1⟩ := e.more
  refine ⟨⟨r ++ [a], by rw [hr, List.append_assoc], fun b hb => ?_⟩, e.keep, e.dom⟩
  rcases List.mem_append.mp hb with z | z
  · exact h1 b z
  · have : b = a := by simpa using z
    rw [this]; exact n
mutual
theorem RV.wide (r : List Addr) : ∀ {v : V} {x : Val}, RV K ρ H v x → RV K (ρ ++ r) H v x
  | _, _, .non => .non
  | _, _, .bl b => .bl b
  | _, _, .int b => .int b
  | _, _, .str b => .str b
  | _, _, .tup h t => .tup h (RVs.wide r t)
  | _, _, .fls h t => .fls h (RVs.wide r t)
  | _, _, .ref h => .ref (by rw [List.getElem?_append_left (List.getElem?_eq_some_iff.mp h).1]; exact h)
theorem RVs.wide (r : List Addr) : ∀ {v : List V} {x : List Val}, RVs K ρ H v x → RVs K (ρ ++ r) H v x
  | _, _, .nil => .nil
  | _, _, .cons h t => .cons (RV.wide r h) (RVs.wide r t)
end
theorem RKV.wide (r : List Addr) {ks : List (Key × V)} {kvs : List (Val × Val)} (h : RKV K ρ H ks kvs) : RKV K (ρ ++ r) H ks kvs := by
  induction h with
  | nil => exact .nil
  | cons h1 h2 _ ih => exact .cons h1 (h2.wide r) ih
theorem RO.wide (r : List Addr) {a : Addr} {o : Ob} (h : RO K ρ H a o) : RO K (ρ ++ r) H a o := by
  cases o with
  | lst xs => obtain ⟨vs, h1, h2⟩ := h; exact ⟨vs, h1, h2.wide r⟩
  | dic kvs => obtain ⟨vs, h1, h2⟩ := h; exact ⟨vs, h1, h2.wide r⟩
  | ins c fs => exact h.elim
theorem RS.join {a : Addr} {o : Ob} (R : RS K ρ H S) (n : a ∉ ρ) (h : RO K ρ H a o) : RS K (ρ ++ [a]) H (S ++ [o]) := by
  refine ⟨by simp [R.len], ?_, fun l b ob h1 h2 => ?_⟩
  · rw [List.nodup_append]
    refine ⟨R.nd, by simp, fun x hx y hy => ?_⟩
    have : y = a := by simpa using hy
    subst this
    intro e
    exact n (e ▸ hx)
  · by_cases hl : l < ρ.length
    · rw [List.getElem?_append_left hl] at h1
      rw [List.getElem?_append_left (by rw [← R.len]; exact hl)] at h2
      exact (R.at' l b ob h1 h2).wide _
    · rw [List.getElem?_append_right (by omega)] at h1
      rw [List.getElem?_append_right (by rw [← R.len]; omega)] at h2
      rw [← R.len] at h2
      have e0 : l - ρ.length = 0 := by
        have := (List.getElem?_eq_some_iff.mp h1).1
        simp at this
        omega
      rw [e0] at h1 h2
      simp at h1 h2
      subst h1
      subst h2
      exact h.wide _
/-- an object of the store is written -/
theorem RO.uniq (R : RS K ρ H S) {l l' : Nat} {a : Addr} (h : ρ[l]? = some a) (h' : ρ[l']? = some a) : l = l' := by
  obtain ⟨h1, e1⟩ := List.getElem?_eq_some_iff.mp h
  obtain ⟨h2, e2⟩ := List.getElem?_eq_some_iff.mp h'
  exact (List.getElem_inj R.nd).mp (e1.trans e2.symm)
end
end Fe

/-! Fe2: outcomes -/
namespace Fe
open PySem L2
section
variable {K : PySem.W.Frag} {ρ ρ' ρ'' ρ1 : List Addr} {H H' H'' H1 : Hp} {S S' S1 : Sto}
theorem Ext.write {a : Addr} {o : HO} (ha : a ∈ ρ) (h : ∃ u, H a = some u) : Ext ρ H ρ (upd H a o) := by
  obtain ⟨u, hu⟩ := h
  refine ⟨⟨[], by simp, by simp⟩, fun b w q n => ?_, fun b q => ?_⟩
  · rw [upd_ne (fun e : b = a => n (by rw [e]; exact ha))]; exact q
  · by_cases e : b = a
    · rw [e, upd_same] at q; cases q
    · rw [upd_ne e] at q; exact q
theorem RS.write {l : Nat} {a : Addr} {o : Ob} {u : HO} (R : RS K ρ H S) (hl : ρ[l]? = some a) (h : RO K ρ (upd H a u) a o) : RS K ρ (upd H a u) (S.set l o) := by
  have ha : a ∈ ρ := List.mem_of_getElem? hl
  have he : ∃ u, H a = some u := let ⟨u, q, _⟩ := R.mut ha; ⟨u, q⟩
  refine ⟨by rw [List.length_set]; exact R.len, R.nd, fun k b ob h1 h2 => ?_⟩
  by_cases hk : k = l
  · subst hk
    rw [hl] at h1
    cases h1
    have hlt : k < S.length := by rw [← R.len]; exact (List.getElem?_eq_some_iff.mp hl).1
    rw [List.getElem?_set_self hlt] at h2
    cases h2
    exact h
  · rw [List.getElem?_set_ne (Ne.symm hk)] at h2
    have hb : b ≠ a := fun e => hk (RO.uniq R (e ▸ h1) hl)
    exact (R.at' k b ob h1 h2).keep R (Ext.write ha he) fun w q => by rw [upd_ne hb]; exact q
theorem RS.lst {l : Nat} {a : Addr} {xs : List Val} (R : RS K ρ H S) (hl : ρ[l]? = some a) (h : S[l]? = some (.lst xs)) : ∃ vs, H a = some (.lst vs) ∧ RVs K ρ H vs xs := R.at' l a _ hl h
theorem RS.addr {l : Nat} {o : Ob} (R : RS K ρ H S) (h : S[l]? = some o) : ∃ a, ρ[l]? = some a := by
  have : l < ρ.length := by rw [R.len]; exact (List.getElem?_eq_some_iff.mp h).1
  exact ⟨ρ[l], List.getElem?_eq_getElem this⟩
/-- a list of the store gets other items -/
theorem RS.relist {l : Nat} {a : Addr} {vs : List V} {xs : List Val} (R : RS K ρ H S) (hl : ρ[l]? = some a) (r : RVs K ρ H vs xs) : Ext ρ H ρ (upd H a (.lst vs)) ∧ RS K ρ (upd H a (.lst vs)) (S.set l (.lst xs)) := by
  have ha : a ∈ ρ := List.mem_of_getElem? hl
  have he : ∃ u, H a = some u := let ⟨u, q, _⟩ := R.mut ha; ⟨u, q⟩
  exact ⟨Ext.write ha he, R.write hl ⟨vs, upd_same, r.ext R (Ext.write ha he)⟩⟩
/-! ### dicts -/
theorem keyEq_of {a b : Val} {j k : Key} (ha : keyOf a = some j) (hb : keyOf b = some k) : keyEq a b = decide (j = k) := by
  cases a <;> cases ha <;> cases b <;> cases hb <;> simp [keyEq]
theorem key_rel {a : Val} {k : Key} (h : keyOf a = some k) : RV K ρ H (kV k) a := by
  cases a <;> cases h
  · exact .int _
  · exact .str _
theorem key_val {v : V} {a : Val} {k : Key} (h : keyOf a = some k) (r : RV K ρ H v a) : v = kV k := by
  cases a <;> cases h <;> cases r <;> rfl
theorem RKV.length {ks : List (Key × V)} {kvs : List (Val × Val)} (h : RKV K ρ H ks kvs) : ks.length = kvs.length := by
  induction h with
  | nil => rfl
  | cons _ _ _ ih => rw [List.length_cons, List.length_cons, ih]
theorem RKV.keys {ks : List (Key × V)} {kvs : List (Val × Val)} (h : RKV K ρ H ks kvs) : RVs K ρ H (ks.map fun kv => kV kv.1) (kvs.map (·.1)) := by
  induction h with
  | nil => exact .nil
  | cons h1 _ _ ih => exact .cons (key_rel h1) ih
theorem RKV.val {ks : List (Key × V)} {kvs : List (Val × Val)} (h : RKV K ρ H ks kvs) {a : Val} {k : Key} (ha : keyOf a = some k) {z : Val} (e : dval a kvs = some z) : ∃ u, valV ks k = some u ∧ RV K ρ H u z := by
  induction h with
  | nil => cases e
  | @cons j v r kx x s h1 h2 _ ih =>
    have q := keyEq_of h1 ha
    by_cases hj : j = k
    · rw [decide_eq_true hj] at q
      simp only [dval, List.find?_cons, q, Option.map_some] at e
      cases e
      exact ⟨v, valV_pos hj, h2⟩
    · rw [decide_eq_false hj] at q
      have e2 : dval a s = some z := by simpa only [dval, List.find?_cons, q] using e
      obtain ⟨u, g1, g2⟩ := ih e2
      exact ⟨u, by rw [valV_neg hj]; exact g1, g2⟩
theorem RKV.any {ks : List (Key × V)} {kvs : List (Val × Val)} (h : RKV K ρ H ks kvs) {a : Val} {k : Key} (ha : keyOf a = some k) : (ks.any fun kv => decide (kv.1 = k)) = kvs.any fun p => keyEq p.1 a := by
  induction h with
  | nil => rfl
  | cons h1 _ _ ih => rw [List.any_cons, List.any_cons, ih, keyEq_of h1 ha]
theorem RKV.app {ks js : List (Key × V)} {kvs jvs : List (Val × Val)} (h : RKV K ρ H ks kvs) (h' : RKV K ρ H js jvs) : RKV K ρ H (ks ++ js) (kvs ++ jvs) := by
  induction h with
  | nil => exact h'
  | cons h1 h2 _ ih => exact .cons h1 h2 ih
theorem RKV.repl {ks : List (Key × V)} {kvs : List (Val × Val)} (h : RKV K ρ H ks kvs) {a : Val} {k : Key} (ha : keyOf a = some k) {v : V} {x : Val} (hv : RV K ρ H v x) : RKV K ρ H (ks.map fun kv => if kv.1 = k then (kv.1, v) else kv) (kvs.map fun p => if keyEq p.1 a = true then (p.1, x) else p) := by
  induction h with
  | nil => exact .nil
  | @cons j v2 r kx x2 s h1 h2 _ ih =>
    have e := keyEq_of h1 ha
    simp only [List.map_cons]
    by_cases hj : j = k
    · rw [decide_eq_true hj] at e
      rw [if_pos hj, if_pos e]
      exact .cons h1 hv ih
    · rw [decide_eq_false hj] at e
      rw [if_neg hj, if_neg (by rw [e]; decide)]
      exact .cons h1 h2 ih
theorem RKV.put {ks : List (Key × V)} {kvs : List (Val × Val)} (h : RKV K ρ H ks kvs) {a : Val} {k : Key} (ha : keyOf a = some k) {v : V} {x : Val} (hv : RV K ρ H v x) : RKV K ρ H (putK ks k v) (dput a x kvs) := by
  have q := h.any ha
  unfold putK dput
  rw [q]
  split
  · exact h.repl ha hv
  · exact h.app (.cons ha hv .nil)
theorem RR.dicW {v : V} {r : Rv} {kvs : List (Val × Val)} (R : RS K ρ H S) (h : RR K ρ H v r) (e : Fe.dicW S r = some kvs) : ∃ a ks, v = .ref a ∧ H a = some (.dK ks) ∧ RKV K ρ H ks kvs := by
  cases r with
  | t o =>
    cases o with
    | dic ys =>
      cases e
      obtain ⟨a, rfl, _, vs, h1, h2⟩ := h
      exact ⟨a, vs, rfl, h1, h2⟩
    | lst _ => cases e
    | ins _ _ => cases e
  | v x =>
    cases x with
    | ref l =>
      simp only [Fe.dicW] at e
      cases h with
      | ref hl =>
        split at e
        · rename_i ys q
          cases e
          obtain ⟨vs, h1, h2⟩ := R.at' l _ _ hl q
          exact ⟨_, vs, rfl, h1, h2⟩
        · cases e
    | _ => cases e
theorem RS.redict {l : Nat} {a : Addr} {ks : List (Key × V)} {kvs : List (Val × Val)} (R : RS K ρ H S) (hl : ρ[l]? = some a) (r : RKV K ρ H ks kvs) : Ext ρ H ρ (upd H a (.dK ks)) ∧ RS K ρ (upd H a (.dK ks)) (S.set l (.dic kvs)) := by
  have ha : a ∈ ρ := List.mem_of_getElem? hl
  have he : ∃ u, H a = some u := let ⟨u, q, _⟩ := R.mut ha; ⟨u, q⟩
  exact ⟨Ext.write ha he, R.write hl ⟨ks, upd_same, r.ext R (Ext.write ha he)⟩⟩

/-! ### lists, tuples as they are read -/
theorem RR.seqT {v : V} {xs : List Val} (h : RR K ρ H v (.v (.tup xs))) : ∃ a vs, v = .ref a ∧ SqT K H a vs ∧ RVs K ρ H vs xs := by
  cases h with
  | tup h r => exact ⟨_, _, rfl, h, r⟩
theorem RR.lstW {v : V} {r : Rv} {xs : List Val} (R : RS K ρ H S) (h : RR K ρ H v r) (e : Fe.lstW S r = some xs) : ∃ a vs, v = .ref a ∧ H a = some (.lst vs) ∧ RVs K ρ H vs xs := by
  cases r with
  | t o =>
    cases o with
    | lst ys =>
      have e' : ys = xs := Option.some.inj e
      subst e'
      obtain ⟨a, rfl, _, vs, h1, h2⟩ := h
      exact ⟨a, vs, rfl, h1, h2⟩
    | dic _ => cases e
    | ins _ _ => cases e
  | v x =>
    cases x with
    | ref l =>
      cases h with
      | ref hl =>
        simp only [Fe.lstW] at e
        split at e
        · rename_i ys hy
          have e' : ys = xs := Option.some.inj e
          subst e'
          obtain ⟨vs, h1, h2⟩ := R.lst hl hy
          exact ⟨_, vs, rfl, h1, h2⟩
        · cases e
    | non => cases e
    | bl _ => cases e
    | int _ => cases e
    | str _ => cases e
    | tup _ => cases e
    | fls _ => cases e
theorem RR.lstOf {v : V} {r : Rv} {xs : List Val} (R : RS K ρ H S) (h : RR K ρ H v r) (e : Fe.lstOf S r = some xs) : ∃ a vs, v = .ref a ∧ SqL K H a vs ∧ RVs K ρ H vs xs := by
  unfold Fe.lstOf at e
  split at e
  · have e' := Option.some.inj e
    subst e'
    cases h with
    | fls h r => exact ⟨_, _, rfl, h.sq, r⟩
  · obtain ⟨a, vs, e1, e2, r⟩ := RR.lstW R h e
    exact ⟨a, vs, e1, SqL.of e2, r⟩
theorem RR.seqOf {v : V} {r : Rv} {xs : List Val} (R : RS K ρ H S) (h : RR K ρ H v r) (e : Fe.seqOf S r = some xs) : ∃ a vs, v = .ref a ∧ (SqL K H a vs ∨ SqT K H a vs) ∧ RVs K ρ H vs xs := by
  unfold Fe.seqOf at e
  split at e
  · have e' := Option.some.inj e
    subst e'
    obtain ⟨a, vs, e1, h1, r⟩ := h.seqT
    exact ⟨a, vs, e1, .inr h1, r⟩
  · obtain ⟨a, vs, e1, h1, r⟩ := RR.lstOf R h e
    exact ⟨a, vs, e1, .inl h1, r⟩
theorem RVs.ints : ∀ {vs : List V} {xs : List Val} {is : List Int}, RVs K ρ H vs xs → intsOf xs = some is → vs = is.map V.int
  | _, _, is, .nil, e => by
    have e' : [] = is := Option.some.inj e
    subst e'; rfl
  | _, _, is, .cons r t, e => by
    cases r with
    | int i =>
      simp only [intsOf] at e
      cases q : intsOf _ with
      | none => rw [q] at e; cases e
      | some js =>
        rw [q] at e
        have e' : i :: js = is := Option.some.inj e
        subst e'
        rw [List.map_cons, ← RVs.ints t q]
    | non => cases e
    | bl _ => cases e
    | str _ => cases e
    | tup _ _ => cases e
    | fls _ _ => cases e
    | ref _ => cases e
theorem RVs.bls : ∀ {vs : List V} {xs : List Val} {is : List Bool}, RVs K ρ H vs xs → blsOf xs = some is → vs = is.map V.bl
  | _, _, is, .nil, e => by
    have e' : [] = is := Option.some.inj e
    subst e'; rfl
  | _, _, is, .cons r t, e => by
    cases r with
    | bl i =>
      simp only [blsOf] at e
      cases q : blsOf _ with
      | none => rw [q] at e; cases e
      | some js =>
        rw [q] at e
        have e' : i :: js = is := Option.some.inj e
        subst e'
        rw [List.map_cons, ← RVs.bls t q]
    | non => cases e
    | int _ => cases e
    | str _ => cases e
    | tup _ _ => cases e
    | fls _ _ => cases e
    | ref _ => cases e

/-! ### data -/
mutual
theorem RV.dp : ∀ {v : V} {x : Val}, RV K ρ H v x → x.bel 0 = true → Dp K H v x.pd
  | _, _, .non, _ => .non
  | _, _, .bl b, _ => .bl b
  | _, _, .int b, _ => .int b
  | _, _, .str b, _ => .str b
  | _, _, .tup h r, e => .tup h (RVs.dp r e)
  | _, _, .fls h r, e => .lst h.sq (RVs.dp r e)
  | _, _, .ref h, e => by simp [Val.bel] at e
theorem RVs.dp : ∀ {v : List V} {x : List Val}, RVs K ρ H v x → Val.belL 0 x = true → DpAll K H v (Val.pdL x)
  | _, _, .nil, _ => .nil
  | _, _, .cons h r, e => by
    simp only [Val.belL, Bool.and_eq_true] at e
    exact .cons (RV.dp h e.1) (RVs.dp r e.2)
end
theorem RR.dat {v : V} {r : Rv} {d : PyData} (R : RS K ρ H S) (h : RR K ρ H v r) (e : datR S r = some d) : Dp K H v d := by
  cases r with
  | t o =>
    cases o with
    | lst ys =>
      simp only [datR] at e
      split at e
      · rename_i hb
        have e' := Option.some.inj e
        subst e'
        obtain ⟨a, rfl, _, vs, h1, h2⟩ := h
        exact .lst (SqL.of h1) (RVs.dp h2 hb)
      · cases e
    | dic _ => cases e
    | ins _ _ => cases e
  | v x =>
    cases x with
    | ref l =>
      cases h with
      | ref hl =>
        simp only [datR] at e
        split at e
        · rename_i ys hy
          split at e
          · rename_i hb
            have e' := Option.some.inj e
            subst e'
            obtain ⟨vs, h1, h2⟩ := R.lst hl hy
            exact .lst (SqL.of h1) (RVs.dp h2 hb)
          · cases e
        · cases e
    | non => simp only [datR] at e; split at e <;> cases e; exact RV.dp h (by assumption)
    | bl _ => simp only [datR] at e; split at e <;> cases e; exact RV.dp h (by assumption)
    | int _ => simp only [datR] at e; split at e <;> cases e; exact RV.dp h (by assumption)
    | str _ => simp only [datR] at e; split at e <;> cases e; exact RV.dp h (by assumption)
    | tup _ => simp only [datR] at e; split at e <;> cases e; exact RV.dp h (by assumption)
    | fls _ => simp only [datR] at e; split at e <;> cases e; exact RV.dp h (by assumption)

/-! ### outcomes -/
/-- behind an expression: a value (a new object was not there ahead) -/
structure Post (K : PySem.W.Frag) (ρ : List Addr) (H : Hp) (v : V) (r : Rv) (ρ' : List Addr) (H' : Hp) (S' : Sto) : Prop where
  ext : Ext ρ H ρ' H'
  rel : RR K ρ' H' v r
  sto : RS K ρ' H' S'
  new : ∀ o a, r = .t o → v = .ref a → H a = none
structure PostV (K : PySem.W.Frag) (ρ : List Addr) (H : Hp) (v : V) (x : Val) (ρ' : List Addr) (H' : Hp) (S' : Sto) : Prop where
  ext : Ext ρ H ρ' H'
  rel : RV K ρ' H' v x
  sto : RS K ρ' H' S'
structure PostA (K : PySem.W.Frag) (ρ : List Addr) (H : Hp) (vs : List V) (xs : List Val) (ρ' : List Addr) (H' : Hp) (S' : Sto) : Prop where
  ext : Ext ρ H ρ' H'
  rel : RVs K ρ' H' vs xs
  sto : RS K ρ' H' S'
structure PostS (K : PySem.W.Frag) (ρ : List Addr) (H : Hp) (ρ' : List Addr) (H' : Hp) (S' : Sto) : Prop where
  ext : Ext ρ H ρ' H'
  sto : RS K ρ' H' S'
/-- behind an error: to be filled when errors are carried -/
def PostX (K : PySem.W.Frag) (ρ : List Addr) (H : Hp) (c : Value) (d : Option Addr) (x : Exn) (ρ' : List Addr) (H' : Hp) (S' : Sto) : Prop := Ext ρ H ρ' H' ∧ RS K ρ' H' S' ∧ d = none ∧ PySem.W.nsIn K mainGlobals x.cls = some (some c)

def OutG {α : Type} (P : α → List Addr → Hp → Sto → Prop) (K : PySem.W.Frag) (ρ : List Addr) (H : Hp) (W : Value → Option Addr → Hp → Prop) (r : Res α) : Prop := match r with
  | .ok a S' => ∀ ρ' H', Ext ρ H ρ' H' → RS K ρ' H' S' → P a ρ' H' S'
  | .exc x S' => ∀ c d ρ' H', PostX K ρ H c d x ρ' H' S' → W c d H'
  | .bad => False
def OutE (K : PySem.W.Frag) (ρ : List Addr) (H : Hp) (W : Value → Option Addr → Hp → Prop) (Q : V → Hp → Prop) (r : Res Rv) : Prop := OutG (fun a ρ' H' _ => ∀ v, RR K ρ' H' v a → (∀ o p, a = .t o → v = .ref p → H p = none) → Q v H') K ρ H W r
def OutA (K : PySem.W.Frag) (ρ : List Addr) (H : Hp) (W : Value → Option Addr → Hp → Prop) (Q : List V → Hp → Prop) (r : Res (List Val)) : Prop := OutG (fun a ρ' H' _ => ∀ vs, RVs K ρ' H' vs a → Q vs H') K ρ H W r
def OutT (K : PySem.W.Frag) (ρ : List Addr) (H : Hp) (W : Value → Option Addr → Hp → Prop) (Q : Bool → Hp → Prop) (r : Res Bool) : Prop := OutG (fun a ρ' H' _ => Q a H') K ρ H W r
variable {W : Value → Option Addr → Hp → Prop}
theorem PostX.mono {c : Value} {d : Option Addr} {x : Exn} (e : Ext ρ H ρ1 H1) (h : PostX K ρ1 H1 c d x ρ' H' S') : PostX K ρ H c d x ρ' H' S' := ⟨e.trans h.1, h.2⟩
theorem OutG.imp {α : Type} {P P' : α → List Addr → Hp → Sto → Prop} {r : Res α} (h : OutG P K ρ H W r) (f : ∀ a ρ' H' S', r = .ok a S' → Ext ρ H ρ' H' → RS K ρ' H' S' → P a ρ' H' S' → P' a ρ' H' S') : OutG P' K ρ H W r := by
  cases r with
  | ok a S' => exact fun ρ' H' e R => f a ρ' H' S' rfl e R (h ρ' H' e R)
  | exc x S' => exact h
  | bad => exact h
theorem OutG.mono {α : Type} {P : α → List Addr → Hp → Sto → Prop} {r : Res α} (e : Ext ρ H ρ1 H1) (h : OutG P K ρ H W r) : OutG P K ρ1 H1 W r := by
  cases r with
  | ok a S' => exact fun ρ' H' f R => h ρ' H' (e.trans f) R
  | exc x S' => exact fun c d ρ' H' p => h c d ρ' H' (p.mono e)
  | bad => exact h
theorem OutG.bnd {α β : Type} {P : β → List Addr → Hp → Sto → Prop} {r : Res α} {f : α → Sto → Res β} (h : OutG P K ρ H W (r.bind f)) :
    OutG (fun a ρ' H' S' => OutG P K ρ' H' W (f a S')) K ρ H W r := by
  cases r with
  | ok a S' => exact fun ρ' H' e R => OutG.mono e h
  | exc x S' => exact h
  | bad => exact h
theorem OutE.mono {Q : V → Hp → Prop} {r : Res Rv} (e : Ext ρ H ρ1 H1) (h : OutE K ρ H W Q r) : OutE K ρ1 H1 W Q r := by
  cases r with
  | ok a S' => exact fun ρ' H' f R v hv hn => h ρ' H' (e.trans f) R v hv fun o p e1 e2 => e.dom p (hn o p e1 e2)
  | exc x S' => exact fun c d ρ' H' p => h c d ρ' H' (p.mono e)
  | bad => exact h
/-- an expression, then what follows -/
theorem OutE.bnd {β : Type} {P : β → List Addr → Hp → Sto → Prop} {r : Res Rv} {f : Rv → Sto → Res β} (h : OutG P K ρ H W (r.bind f)) :
    OutE K ρ H W (fun v H1 => ∃ x S1 ρ1, Post K ρ H v x ρ1 H1 S1 ∧ OutG P K ρ1 H1 W (f x S1)) r := by
  cases r with
  | ok a S' => exact fun ρ' H' e R v hv hn => ⟨a, S', ρ', ⟨e, hv, R, hn⟩, OutG.mono e h⟩
  | exc x S' => exact h
  | bad => exact h
/-- .. from where it began -/
theorem OutE.bnd0 {β : Type} {P : β → List Addr → Hp → Sto → Prop} {r : Res Rv} {f : Rv → Sto → Res β} (h : OutG P K ρ H W (r.bind f)) :
    OutE K ρ H W (fun v H1 => ∃ x S1 ρ1, Post K ρ H v x ρ1 H1 S1 ∧ OutG P K ρ H W (f x S1)) r := by
  cases r with
  | ok a S' => exact fun ρ' H' e R v hv hn => ⟨a, S', ρ', ⟨e, hv, R, hn⟩, h⟩
  | exc x S' => exact h
  | bad => exact h
theorem OutE.bndE {Q : V → Hp → Prop} {r : Res Rv} {f : Rv → Sto → Res Rv} (h : OutE K ρ H W Q (r.bind f)) :
    OutE K ρ H W (fun v H1 => ∃ x S1 ρ1, Post K ρ H v x ρ1 H1 S1 ∧ OutE K ρ1 H1 W Q (f x S1)) r := by
  cases r with
  | ok a S' => exact fun ρ' H' e R v hv hn => ⟨a, S', ρ', ⟨e, hv, R, hn⟩, OutE.mono e h⟩
  | exc x S' => exact h
  | bad => exact h
theorem OutE.bndE0 {Q : V → Hp → Prop} {r : Res Rv} {f : Rv → Sto → Res Rv} (h : OutE K ρ H W Q (r.bind f)) :
    OutE K ρ H W (fun v H1 => ∃ x S1 ρ1, Post K ρ H v x ρ1 H1 S1 ∧ OutE K ρ H W Q (f x S1)) r := by
  cases r with
  | ok a S' => exact fun ρ' H' e R v hv hn => ⟨a, S', ρ', ⟨e, hv, R, hn⟩, h⟩
  | exc x S' => exact h
  | bad => exact h
theorem OutE.post {Q : V → Hp → Prop} {v : V} {x : Rv} (p : Post K ρ H v x ρ' H' S') (h : OutE K ρ H W Q (.ok x S')) : Q v H' := h ρ' H' p.ext p.sto v p.rel p.new
theorem OutE.imp {Q Q' : V → Hp → Prop} {r : Res Rv} (h : OutE K ρ H W Q r) (f : ∀ v H', Q v H' → Q' v H') : OutE K ρ H W Q' r :=
  OutG.imp h fun a ρ' H' S' _ _ _ q v hv hn => f v H' (q v hv hn)
theorem OutG.toE {α : Type} {Q : V → Hp → Prop} {r : Res α} {f : α → Sto → Res Rv} (h : OutE K ρ H W Q (r.bind f)) :
    OutG (fun a ρ' H' S' => OutE K ρ' H' W Q (f a S')) K ρ H W r := by
  cases r with
  | ok a S' => exact fun ρ' H' e R => OutE.mono e h
  | exc x S' => exact h
  | bad => exact h
theorem OutG.toE0 {α : Type} {Q : V → Hp → Prop} {r : Res α} {f : α → Sto → Res Rv} (h : OutE K ρ H W Q (r.bind f)) :
    OutG (fun a ρ' H' S' => OutE K ρ H W Q (f a S')) K ρ H W r := by
  cases r with
  | ok a S' => exact fun ρ' H' e R => h
  | exc x S' => exact h
  | bad => exact h
/-- an answer without further ado -/
theorem OutE.val {Q : V → Hp → Prop} {x : Val} {v : V} (R : RS K ρ H S) (h : OutE K ρ H W Q (.ok (.v x) S)) (r : RV K ρ H v x) : Q v H :=
  h ρ H Ext.refl R v r fun o p e _ => nomatch e
theorem OutE.ofS {Q : V → Hp → Prop} {o : Option Rv} (h : OutE K ρ H W Q (Res.of o S)) : ∃ r, o = some r ∧ OutE K ρ H W Q (.ok r S) := by
  cases o with
  | none => exact False.elim h
  | some r => exact ⟨r, rfl, h⟩
theorem OutG.ofS {α : Type} {P : α → List Addr → Hp → Sto → Prop} {o : Option α} (h : OutG P K ρ H W (Res.of o S)) : ∃ r, o = some r ∧ OutG P K ρ H W (.ok r S) := by
  cases o with
  | none => exact False.elim h
  | some r => exact ⟨r, rfl, h⟩
/-- a new tuple -/
theorem OutE.tup {Q : V → Hp → Prop} {xs : List Val} {vs : List V} {p : Addr} (R : RS K ρ H S) (h : OutE K ρ H W Q (.ok (.v (.tup xs)) S)) (r : RVs K ρ H vs xs) (hp : H p = none) : Q (.ref p) (upd H p (.tup vs)) :=
  h ρ _ (Ext.new hp) (R.new hp) (.ref p) (.tup (SqT.of upd_same) (r.ext R (Ext.new hp))) fun o q e _ => nomatch e
/-- a new list -/
theorem OutE.lst {Q : V → Hp → Prop} {xs : List Val} {vs : List V} {p : Addr} (R : RS K ρ H S) (h : OutE K ρ H W Q (.ok (.t (.lst xs)) S)) (r : RVs K ρ H vs xs) (hp : H p = none) : Q (.ref p) (upd H p (.lst vs)) :=
  h ρ _ (Ext.new hp) (R.new hp) (.ref p) ⟨p, rfl, R.notin_none hp, vs, upd_same, r.ext R (Ext.new hp)⟩ fun o q _ e => by
    cases e
    exact hp
/-- a new object is laid into the store where it is one -/
theorem Post.lay {v : V} {r : Rv} (p : Post K ρ H v r ρ' H' S') : ∃ ρ2, PostV K ρ H v (Fe.lay r S').1 ρ2 H' (Fe.lay r S').2 := by
  cases r with
  | v x => exact ⟨ρ', p.ext, p.rel, p.sto⟩
  | t o =>
    obtain ⟨a, rfl, n, h⟩ := p.rel
    refine ⟨ρ' ++ [a], p.ext.join (p.new o a rfl rfl), ?_, p.sto.join n h⟩
    refine .ref ?_
    rw [← p.sto.len]
    simp
end
end Fe

/-! Fe3: the operations -/
namespace Fe
open PySem L2
section
variable {X : Cx} {ρ ρ' : List Addr} {H H' : Hp} {S S' : Sto} {W : Value → Option Addr → Hp → Prop} {Q : V → Hp → Prop} {v w : V} {x y r : Rv}
theorem RR.int {K : PySem.W.Frag} {i : Int} (h : RR K ρ H v (.v (.int i))) : v = .int i := by cases h; rfl
theorem RR.str {K : PySem.W.Frag} {i : Str} (h : RR K ρ H v (.v (.str i))) : v = .str i := by cases h; rfl
theorem RR.bl {K : PySem.W.Frag} {i : Bool} (h : RR K ρ H v (.v (.bl i))) : v = .bl i := by cases h; rfl
theorem RR.non {K : PySem.W.Frag} (h : RR K ρ H v (.v .non)) : v = .non := by cases h; rfl

/-! ### + -/
def rAddI : R2 := rI0 fun i j => .int (i + j)
def rAddS : R2 := fun x y H Q => ∃ i j, x = .str i ∧ y = .str j ∧ i.length + j.length ≤ sizeLine ∧ Q (.str (i ++ j)) H
def rAdd (K : PySem.W.Frag) : R2 := fun x y H Q => rAddI x y H Q ∨ rAddS x y H Q ∨ rCatA K x y H Q ∨ rCat x y H Q
theorem op_addF : OpR X (binaryOp .Add) (rAdd X.K) := op_add.or (op_add_str.or (op_catA.or op_cat))
theorem add_snd {K : PySem.W.Frag} (R : RS K ρ H S) (hx : RR K ρ H v x) (hy : RR K ρ H w y) (e : addR S x y = some r) (h : OutE K ρ H W Q (.ok r S)) : rAdd K v w H Q := by
  unfold addR at e
  split at e
  · cases e
    rw [hx.int, hy.int]
    exact .inl ⟨_, _, rfl, rfl, h.val R (.int _)⟩
  · split at e
    · cases e
      rw [hx.str, hy.str]
      exact .inr (.inl ⟨_, _, rfl, rfl, by assumption, h.val R (.str _)⟩)
    · cases e
  · split at e
    · cases e
      rename_i hz
      obtain ⟨a, vs, rfl, h1, r1⟩ := hx.seqT
      obtain ⟨b, ws, rfl, h2, r2⟩ := hy.seqT
      refine .inr (.inr (.inl ⟨a, b, vs, ws, rfl, rfl, h1, h2, by rw [r1.length, r2.length]; exact hz, fun e1 => ?_, fun _ e2 => ?_, fun _ _ p hp => h.tup R (r1.append r2) hp⟩))
      · subst e1
        cases r1
        exact h.val R hy
      · subst e2
        cases r2
        rw [List.append_nil] at h
        exact h.val R hx
    · cases e
  · split at e
    · rename_i a b ha hb
      split at e
      · cases e
        rename_i hz
        obtain ⟨p, vs, rfl, h1, r1⟩ := RR.lstW R hx ha
        obtain ⟨q, ws, rfl, h2, r2⟩ := RR.lstW R hy hb
        exact .inr (.inr (.inr ⟨p, q, vs, ws, rfl, rfl, h1, h2, by rw [r1.length, r2.length]; exact hz, fun z hz => h.lst R (r1.append r2) hz⟩))
      · cases e
    · cases e

/-! ### the other operators on ints -/
theorem mulOk_ok {i j : Int} (h : mulOk i j = true) : CMul i j ∨ CMulW i j := by
  unfold mulOk at h
  simp only [Bool.or_eq_true, Bool.and_eq_true, decide_eq_true_eq] at h
  rcases h with (h | h) | h
  · exact .inl (.inl h)
  · exact .inl (.inr h)
  · right
    unfold CMulW
    omega
def opPy : Bop → Operator
  | .add => .Add
  | .sub => .Sub
  | .mul => .Mult
  | .fdiv => .FloorDiv
  | .mod => .Mod
  | .pow => .Pow
def rBin (K : PySem.W.Frag) : Bop → R2
  | .add => rAdd K
  | .sub => rI0 fun i j => .int (i - j)
  | .mul => fun x y H Q => rI CMul (fun i j => .int (i * j)) x y H Q ∨ rI CMulW (fun i j => .int (i * j)) x y H Q
  | .fdiv => fun x y H Q => rI CDivN (fun i j => .int (i.fdiv j)) x y H Q ∨ rI CDivW (fun i j => .int (i / j)) x y H Q
  | .mod => rI (fun _ j => j ≠ 0) fun i j => .int (i.fmod j)
  | .pow => rI CPow fun i j => .int (i ^ j.toNat)
theorem op_bin : ∀ o : Bop, OpR X (binaryOp (opPy o)) (rBin X.K o)
  | .add => op_addF
  | .sub => op_sub
  | .mul => op_mul.or op_mulW
  | .fdiv => op_fdivN.or op_fdivW
  | .mod => op_modN
  | .pow => op_pow
theorem bin_snd {K : PySem.W.Frag} {o : Bop} (R : RS K ρ H S) (hx : RR K ρ H v x) (hy : RR K ρ H w y) (e : binR S o x y = some r) (h : OutE K ρ H W Q (.ok r S)) : rBin K o v w H Q := by
  unfold binR at e
  split at e
  · exact add_snd R hx hy e h
  · cases e
    rw [hx.int, hy.int]
    exact ⟨_, _, rfl, rfl, h.val R (.int _)⟩
  · split at e
    · rename_i hm
      cases e
      rw [hx.int, hy.int]
      rcases mulOk_ok hm with c | c
      · exact .inl ⟨_, _, rfl, rfl, c, h.val R (.int _)⟩
      · exact .inr ⟨_, _, rfl, rfl, c, h.val R (.int _)⟩
    · cases e
  · split at e
    · rename_i hm
      cases e
      rw [hx.int, hy.int]
      unfold divOk at hm
      simp only [Bool.or_eq_true, Bool.and_eq_true, decide_eq_true_eq] at hm
      rcases hm with c | c
      · exact .inl ⟨_, _, rfl, rfl, c, h.val R (.int _)⟩
      · refine .inr ⟨_, _, rfl, rfl, c, ?_⟩
        have q := h.val R (.int _)
        rw [Int.fdiv_eq_ediv_of_nonneg _ (by omega)] at q
        exact q
    · cases e
  · split at e
    · rename_i hm
      cases e
      rw [hx.int, hy.int]
      exact ⟨_, _, rfl, rfl, hm, h.val R (.int _)⟩
    · cases e
  · split at e
    · rename_i hm
      cases e
      rw [hx.int, hy.int]
      unfold powOk at hm
      simp only [Bool.and_eq_true, decide_eq_true_eq] at hm
      exact ⟨_, _, rfl, rfl, ⟨hm.1.1, hm.1.2, hm.2⟩, h.val R (.int _)⟩
    · cases e
  · cases e

/-! ### comparisons -/
def cmpPy : Cop → CmpOp
  | .eq => .Eq
  | .ne => .NotEq
  | .lt => .Lt
  | .le => .LtE
  | .gt => .Gt
  | .ge => .GtE
  | .is => .Is
  | .isn => .IsNot
  | .isin => .In
  | .notin => .NotIn
/-- < of data -/
def rLtD (K : PySem.W.Frag) : R2 := fun x y H Q => ∃ d e, Dp K H x d ∧ Dp K H y e ∧ PySem.W.alike d e = true ∧ d ≠ .none ∧ min d.depth e.depth ≤ 60 ∧ Q (.bl (PySem.W.dataLt d e)) H
theorem op_ltD (hu : X.A.units + 64 < cLine) : OpR X (compareOp .Lt) (rLtD X.K) := by
  intro pins s σ H x y v u Q I rx ry h
  obtain ⟨d, e, hd, he, al, hn, hz, q⟩ := h
  obtain ⟨as, r1⟩ := Dp.reads I d x v hd rx
  obtain ⟨bs, r2⟩ := Dp.reads I e y u he ry
  have z := PySem.W.rcLt_alike d e X.A s v u as bs r1 r2 al hn (by omega)
  exact z X.prog X.w X.xe _ ⟨.bl _, H, I, rfl, q⟩

/-- > of data -/
def rGtD (K : PySem.W.Frag) : R2 := fun x y H Q => ∃ d e, Dp K H x d ∧ Dp K H y e ∧ PySem.W.alike d e = true ∧ d ≠ .none ∧ min d.depth e.depth ≤ 60 ∧ Q (.bl (PySem.W.dataLt e d)) H
theorem op_gtD (hu : X.A.units + 64 < cLine) : OpR X (compareOp .Gt) (rGtD X.K) := by
  intro pins s σ H x y v u Q I rx ry h
  obtain ⟨d, e, hd, he, al, hn, hz, q⟩ := h
  obtain ⟨as, r1⟩ := Dp.reads I d x v hd rx
  obtain ⟨bs, r2⟩ := Dp.reads I e y u he ry
  have z := PySem.W.rcGt_alike d e X.A s v u as bs r1 r2 al hn (by omega)
  exact z X.prog X.w X.xe _ ⟨.bl _, H, I, rfl, q⟩

def rCmp (K : PySem.W.Frag) : Cop → R2
  | .eq => rEqD K
  | .ne => rNeD K
  | .lt => fun x y H Q => rI0 (fun i j => .bl (decide (i < j))) x y H Q ∨ (∃ i j, x = .str i ∧ y = .str j ∧ Q (.bl (decide (i.cps.toList < j.cps.toList))) H) ∨ rLtD K x y H Q
  | .le => rI0 fun i j => .bl (decide (i ≤ j))
  | .gt => fun x y H Q => rI0 (fun i j => .bl (decide (j < i))) x y H Q ∨ rGtD K x y H Q
  | .ge => rI0 fun i j => .bl (decide (j ≤ i))
  | .is => fun x y H Q => y = .non ∧ Q (.bl (decide (x = .non))) H
  | .isn => fun x y H Q => y = .non ∧ Q (.bl (!decide (x = .non))) H
  | .isin => fun x y H Q => (∃ i j, x = .str i ∧ y = .str j ∧ Q (.bl (!(Builtin.Str.occurrences j i 0 j.length 1).isEmpty)) H) ∨ rInD K x y H Q
  | .notin => fun x y H Q => (∃ i j, x = .str i ∧ y = .str j ∧ Q (.bl (!(!(Builtin.Str.occurrences j i 0 j.length 1).isEmpty))) H) ∨ rNotInD K x y H Q
theorem op_cmp (hu : X.A.units + 100 < cLine) : ∀ o : Cop, OpR X (compareOp (cmpPy o)) (rCmp X.K o)
  | .eq => op_eqD (by omega)
  | .ne => op_neD (by omega)
  | .lt => op_lt.or (op_lt_str.or (op_ltD (by omega)))
  | .le => op_le
  | .gt => op_gt.or (op_gtD (by omega))
  | .ge => op_ge
  | .is => op_isN
  | .isn => op_notN
  | .isin => op_in_str.or (op_inD (by omega))
  | .notin => op_notin_str.or (op_notInD (by omega))
theorem eq_snd {K : PySem.W.Frag} {b : Bool} (R : RS K ρ H S) (hx : RR K ρ H v x) (hy : RR K ρ H w y) (e : eqR S x y = some b) : ∃ d e, Dp K H v d ∧ Dp K H w e ∧ SeqAt.shaped d = true ∧ SeqAt.shaped e = true ∧ b = PyData.eqv d e := by
  unfold eqR at e
  split at e
  · rename_i d f h1 h2
    split at e
    · rename_i hs
      cases e
      exact ⟨d, f, RR.dat R hx h1, RR.dat R hy h2, hs.1, hs.2, rfl⟩
    · cases e
  · cases e
theorem isNon_eq {K : PySem.W.Frag} (hx : RR K ρ H v x) : decide (v = .non) = isNon x := by
  cases x with
  | t o => obtain ⟨a, rfl, _⟩ := hx; rfl
  | v x => cases hx <;> rfl
theorem in_snd {K : PySem.W.Frag} {b : Bool} (R : RS K ρ H S) (hx : RR K ρ H v x) (hy : RR K ρ H w y) (e : inR S x y = some b) :
    (∃ i j, v = .str i ∧ w = .str j ∧ b = !(Builtin.Str.occurrences j i 0 j.length 1).isEmpty) ∨ ∃ d ds, Dp K H v d ∧ Dp K H w (.list ds) ∧ SeqAt.shaped d = true ∧ SeqAt.shaped (.list ds) = true ∧ b = ds.any fun z => PyData.eqv z d := by
  unfold inR at e
  split at e
  · cases e
    exact .inl ⟨_, _, hx.str, hy.str, rfl⟩
  · split at e
    · rename_i ys hys
      split at e
      · rename_i hs
        cases e
        obtain ⟨a, vs, rfl, h1, r1⟩ := RR.lstOf R hy hys
        exact .inr ⟨_, _, RV.dp hx hs.1, .lst h1 (RVs.dp r1 hs.2.1), hs.2.2.1, hs.2.2.2, rfl⟩
      · cases e
    · cases e
  · cases e
theorem cmp_snd {K : PySem.W.Frag} {o : Cop} {b : Bool} (R : RS K ρ H S) (hx : RR K ρ H v x) (hy : RR K ρ H w y) (e : cmpR S o x y = some b) (h : Q (.bl b) H) : rCmp K o v w H Q := by
  unfold cmpR at e
  split at e
  · obtain ⟨d, f, h1, h2, h3, h4, rfl⟩ := eq_snd R hx hy e
    exact ⟨d, f, h1, h2, h3, h4, h⟩
  · cases q : eqR S x y with
    | none => rw [q] at e; cases e
    | some k =>
      rw [q] at e
      cases e
      obtain ⟨d, f, h1, h2, h3, h4, rfl⟩ := eq_snd R hx hy q
      exact ⟨d, f, h1, h2, h3, h4, h⟩
  · unfold ltR at e
    split at e
    · cases e
      rw [hx.int, hy.int]
      exact .inl ⟨_, _, rfl, rfl, h⟩
    · cases e
      rw [hx.str, hy.str]
      exact .inr (.inl ⟨_, _, rfl, rfl, h⟩)
    · split at e
      · rename_i hb
        unfold ltD at e
        split at e
        · rename_i hl
          cases e
          exact .inr (.inr ⟨_, _, RV.dp hx (by simp only [Val.bel]; exact hb.1), RV.dp hy (by simp only [Val.bel]; exact hb.2), hl.1, (fun z => nomatch z), hl.2, h⟩)
        · cases e
      · cases e
    · cases e
  · unfold gtR at e
    split at e
    · cases e
      rw [hx.int, hy.int]
      exact .inl ⟨_, _, rfl, rfl, h⟩
    · split at e
      · rename_i hb
        unfold gtD at e
        split at e
        · rename_i hl
          cases e
          exact .inr ⟨_, _, RV.dp hx (by simp only [Val.bel]; exact hb.1), RV.dp hy (by simp only [Val.bel]; exact hb.2), hl.1, (fun z => nomatch z), hl.2, h⟩
        · cases e
      · cases e
    · cases e
  · cases e
    rw [hx.int, hy.int]
    exact ⟨_, _, rfl, rfl, h⟩
  · cases e
    rw [hx.int, hy.int]
    exact ⟨_, _, rfl, rfl, h⟩
  · cases e
    exact ⟨hy.non, by rw [isNon_eq hx]; exact h⟩
  · cases e
    exact ⟨hy.non, by rw [isNon_eq hx]; exact h⟩
  · rcases in_snd R hx hy e with ⟨i, j, e1, e2, rfl⟩ | ⟨d, ds, h1, h2, h3, h4, rfl⟩
    · exact .inl ⟨i, j, e1, e2, h⟩
    · exact .inr ⟨d, ds, h1, h2, h3, h4, h⟩
  · cases q : inR S x y with
    | none => rw [q] at e; cases e
    | some k =>
      rw [q] at e
      cases e
      rcases in_snd R hx hy q with ⟨i, j, e1, e2, rfl⟩ | ⟨d, ds, h1, h2, h3, h4, rfl⟩
      · exact .inl ⟨i, j, e1, e2, h⟩
      · exact .inr ⟨d, ds, h1, h2, h3, h4, h⟩
  · cases e

/-! ### truth -/
theorem tru_snd {K : PySem.W.Frag} {k : Bool} (R : RS K ρ H S) (hx : RR K ρ H v x) (e : truR S x = some k) : TruV K v H k := by
  unfold truR at e
  split at e
  · cases e; rw [hx.non]; rfl
  · cases e; rw [hx.bl]; rfl
  · cases e; rw [hx.int]; rfl
  · split at e
    · rename_i hz
      cases e; rw [hx.str]
      refine ⟨hz, ?_⟩
      rw [Bool.eq_iff_iff]
      simp
    · cases e
  · cases q : seqOf S x with
    | none => rw [q] at e; cases e
    | some xs =>
      rw [q] at e
      cases e
      obtain ⟨a, vs, rfl, h1, r1⟩ := RR.seqOf R hx q
      have z : (!xs.isEmpty) = !vs.isEmpty := by cases r1 <;> rfl
      rcases h1 with h1 | h1
      · exact .inl ⟨vs, h1, z⟩
      · exact .inr (.inl ⟨vs, h1, z⟩)

/-! ### items, slices -/
theorem atI_rel {K : PySem.W.Frag} {vs : List V} {xs : List Val} {i : Int} {z : Val} (r : RVs K ρ H vs xs) (h : atI xs i = some z) : ∃ u, atI vs i = some u ∧ RV K ρ H u z := by
  unfold atI at h ⊢
  rw [r.length]
  cases q : ixN xs.length i with
  | none => rw [q] at h; cases h
  | some j =>
    rw [q] at h
    obtain ⟨u, h1, h2⟩ := r.get (i := j) (x := z) h
    exact ⟨u, h1, h2⟩
/-- an item of a dict: keys are ints or texts -/
def rIxD : R2 := fun x y H Q => ∃ a ks k u, x = .ref a ∧ H a = some (.dK ks) ∧ y = kV k ∧ valV ks k = some u ∧ Q u H
open PySem.Spec PyProof.Rows in
theorem ix_dic {X : Cx} : IxR X rIxD := by
  intro value slice pins s σ H x y v u Q I rx ry h hs
  obtain ⟨a, ks, k, w, rfl, e, rfl, l, q⟩ := h
  cases rx
  have g : DGet H a (kV k) (some w) := by rw [← l]; exact .k e
  refine PyProof.Rows.tail_any (ops := [.ref a, u]) (dict_typeIs I g) PySem.F.slot_dict_getitem.lookup ?_ hs
  obtain ⟨z, hd, vs, rel, dd⟩ := dk_rd I.hok (.inl e)
  obtain ⟨w', hw, rw'⟩ := RelO.some_of (v := w) (o := valueAt vs k) (by rw [← l]; exact rel.val k)
  exact wpAny_getItem_of (kV_is ry) dd.mapOf hw ⟨w, H, I.tok _, rw', q⟩
def rIx4 (K : PySem.W.Frag) : R2 := fun x y H Q => rIx K x y H Q ∨ rIxD x y H Q
theorem dic_snd {K : PySem.W.Frag} {y : Val} {k : Key} {kvs : List (Val × Val)} {z : Val} (R : RS K ρ H S) (hx : RR K ρ H v x) (hy : keyOf y = some k) (e : dicW S x = some kvs) (e2 : dval y kvs = some z) (h : ∀ u, RV K ρ H u z → Q u H) : rIxD v (kV k) H Q := by
  obtain ⟨a, ks, rfl, h1, r1⟩ := RR.dicW R hx e
  obtain ⟨u, h2, r2⟩ := r1.val hy e2
  exact ⟨a, ks, k, u, rfl, h1, rfl, h2, h u r2⟩
theorem ix_snd {K : PySem.W.Frag} {i : Int} {z : Val} (R : RS K ρ H S) (hx : RR K ρ H v x) (e : ixR S x i = some z) (h : ∀ u, RV K ρ H u z → Q u H) : rIx4 K v (.int i) H Q := by
  unfold ixR at e
  split at e
  · rename_i s
    split at e
    · rename_i hz
      rw [hx.str]
      cases q : atI s.cps.toList i with
      | none => rw [q] at e; cases e
      | some c =>
        rw [q] at e
        cases e
        exact .inl (.inr (.inr ⟨s, i, c, rfl, rfl, hz, q, h _ (.str _)⟩))
    · cases e
  · split at e
    · rename_i kvs hd
      exact .inr (dic_snd (y := .int i) (k := .inl i) R hx rfl hd e h)
    · cases q : seqOf S x with
      | none => rw [q] at e; cases e
      | some xs =>
        rw [q] at e
        obtain ⟨a, vs, rfl, h1, r1⟩ := RR.seqOf R hx q
        obtain ⟨u, h2, r2⟩ := atI_rel r1 e
        rcases h1 with h1 | h1
        · exact .inl (.inl ⟨a, vs, i, u, rfl, rfl, h1, h2, h u r2⟩)
        · exact .inl (.inr (.inl ⟨a, vs, i, u, rfl, rfl, h1, h2, h u r2⟩))
theorem cut_rel {K : PySem.W.Frag} {vs : List V} {xs : List Val} (r : RVs K ρ H vs xs) (lo hi : Option Int) : RVs K ρ H (cutV vs lo hi) (cutL xs lo hi) := by
  unfold cutV cutL
  rw [r.length]
  exact (r.drop _).take _
theorem cutL_whole {xs : List Val} {lo hi : Option Int} (h : HT.sIx xs.length 0 lo = 0 ∧ HT.sIx xs.length xs.length hi = xs.length) : cutL xs lo hi = xs := by
  unfold cutL
  rw [h.1, h.2, List.drop_zero, Nat.sub_zero, List.take_length]
def rSl (K : PySem.W.Frag) : V → Option Int → Option Int → Hp → VK → Prop := fun x lo hi H Q => (rSlA K x lo hi H Q ∨ rSlL K x lo hi H Q) ∨ rSlS x lo hi H Q
theorem sl_any : SlR X (rSl X.K) := (sl_tupA.or sl_list).or sl_str
theorem sl_snd {K : PySem.W.Frag} {lo hi : Option Int} (R : RS K ρ H S) (hx : RR K ρ H v x) (e : slR S x lo hi = some r) (h : OutE K ρ H W Q (.ok r S)) : rSl K v lo hi H Q := by
  unfold slR at e
  split at e
  · cases e
    obtain ⟨a, vs, rfl, h1, r1⟩ := hx.seqT
    refine .inl (.inl ⟨a, vs, rfl, h1, fun hw => ?_, fun _ p hp => h.tup R (cut_rel r1 lo hi) hp⟩)
    rw [r1.length] at hw
    rw [cutL_whole hw] at h
    exact h.val R hx
  · split at e
    · rename_i hz
      cases e
      rw [hx.str]
      exact .inr ⟨_, rfl, hz, h.val R (.str _)⟩
    · cases e
  · cases q : lstOf S x with
    | none => rw [q] at e; cases e
    | some xs =>
      rw [q] at e
      cases e
      obtain ⟨a, vs, rfl, h1, r1⟩ := RR.lstOf R hx q
      exact .inl (.inr ⟨a, vs, rfl, h1, fun p hp => h.lst R (cut_rel r1 lo hi) hp⟩)

/-! ### isinstance -/
theorem SqT.ty {K : PySem.W.Frag} {a : Addr} {vs : List V} (h : SqT K H a vs) : TyX K H (.ref a) (.type "tuple") := by
  rcases h with (h | ⟨o, h⟩) | ⟨o, its, n, h1, h2, _⟩
  · exact .base (.tup h)
  · exact .fTuple h
  · exact .kTuple h1 h2
theorem SqL.ty {K : PySem.W.Frag} {a : Addr} {vs : List V} (h : SqL K H a vs) : TyX K H (.ref a) (.type "list") := by
  rcases h with (h | ⟨o, h⟩) | ⟨o, its, n, h1, h2, _⟩
  · exact .base (.lst h)
  · exact .base (.frz h)
  · exact .kList h1 h2
theorem cls_snd {K : PySem.W.Frag} {c : Cl} (R : RS K ρ H S) (hx : RR K ρ H v x) (e : clsOf S x = some c) : TyX K H v (.type c.name) := by
  unfold clsOf at e
  split at e
  · cases e; rw [hx.non]; exact .base .non
  · cases e; rw [hx.bl]; exact .base (.bl _)
  · cases e; rw [hx.int]; exact .base (.int _)
  · cases e; rw [hx.str]; exact .base (.str _)
  · cases e
    obtain ⟨a, vs, rfl, h1, _⟩ := hx.seqT
    exact Fe.SqT.ty h1
  · cases e
    cases hx with
    | fls h _ => exact Fe.SqL.ty h.sq
  · split at e
    · rename_i xs hl
      cases e
      cases hx with
      | ref h =>
        obtain ⟨vs, h1, _⟩ := R.lst h hl
        exact .base (.lst h1)
    · rename_i xs hl
      cases e
      cases hx with
      | ref h =>
        obtain ⟨vs, h1, _⟩ := R.at' _ _ _ h hl
        exact .base (.dK h1)
    · cases e
  · cases e
    obtain ⟨a, rfl, _, vs, h1, _⟩ := hx
    exact .base (.lst h1)
  · cases e
    obtain ⟨a, rfl, _, vs, h1, _⟩ := hx
    exact .base (.dK h1)
  · cases e
end
end Fe

/-! Fe4: built-ins -/
namespace PySem.W
open PySem PySem.Calls PyProof.Rows
section
variable {β : Type} {prog : Program} {w : World} {A : Around} {E : Value → Shared → Prop} {s : Shared} {R : Value → β → Prop} {enc : β → PyData} {vs : List Value} {bs : List β}
theorem sorted_tup {a : Addr} {o : Obj} {n : Nat} {Q : Value → Shared → Prop} (ho : s.heap.get? a = some o) (hc : o.cls = .type "tuple") (hd : o.data = .seq vs.toArray n) (e : EachIs R vs bs) (er : EachIs (fun v b => ∃ as, Reads s.heap v (enc b) as) vs bs) (hal : AllAlike (bs.map enc)) (hk : Sortable (bs.map enc)) (hL : bs.length ≤ sizeLine)
    (hu : ∀ b, b ∈ bs → A.units + 2 + (enc b).depth < cLine)
    (h : ∀ (h1 h' : Heap) (out : List Value) (ep : Nat), (∀ b o, s.heap.get? b = some o → h1.get? b = some o) → (∀ b o, h1.get? b = some o → h'.get? b = some o) → h'.get? h1.objs.size = some (seqObj "list" out.toArray ep) → out.length = bs.length → EachIs R out (bs.mergeSort (dataLe false enc)) → Q (.ref h1.objs.size) { s with heap := h' }) :
    wpAny (model prog w) A (call (.builtin "sorted") [.ref a]) Q E s := by
  have hLv : vs.length ≤ sizeLine := by rw [e.length]; exact hL
  refine call_function_entry_kw kind_sorted plain_sorted entry_sorted (args_sorted1 _) ?_; unfold Builtin.«sorted»; refine wpAny_bind (m := checkCount "sorted" 1 1 _) (wpAny_pure ?_)
  refine wpAny_bind (wpAny_collect_seq a (.inr rfl) ho hc hd (fun h1 k1 => ?_) (by simpa using hLv))
  refine wpAny_bind (wpAny_newList ?_ hLv)
  have hat : (h1.push (seqObj "list" vs.toArray 0)).get? h1.objs.size = some (seqObj "list" vs.toArray 0) := Heap.get?_push_size _ rfl
  have hold : ∀ b o, h1.get? b = some o → (h1.push (seqObj "list" vs.toArray 0)).get? b = some o := fun b o q => Heap.get?_push_of_some _ q
  show wpAny _ _ _ _ _ { s with heap := h1.push (seqObj "list" vs.toArray 0) }
  refine wpAny_bind (wpAny_holding (wpAny_call_entry_kw slot_list_sort ⟨_, hat, rfl⟩ entry_list_sort ?body (args_list_sort _)))
  case body =>
    have er' : EachIs (fun v b => ∃ as, Reads (sortingHeap (h1.push (seqObj "list" vs.toArray 0)) h1.objs.size vs) v (enc b) as) vs bs := er.mono fun _ _ ⟨as, r⟩ => ⟨as, PyProof.Rows.Reads.keeps (fun b o q => sortingHeap_old (Nat.ne_of_lt (Heap.lt_size (k1 b o q))) (hold b o (k1 b o q))) r⟩
    have hS := SortsAt.data (prog := prog) (w := w) (A := A.in1.in1) (s := { s with heap := sortingHeap (h1.push (seqObj "list" vs.toArray 0)) h1.objs.size vs }) (each_map (R := fun v d => ∃ as, Reads (sortingHeap (h1.push (seqObj "list" vs.toArray 0)) h1.objs.size vs) v d as) enc er') hal hk (bound_map hu)
    refine wpAny_mono (list_sort_vals (s := { s with heap := h1.push (seqObj "list" vs.toArray 0) }) (P := fun f s' => f = .done (.ret .none) ∧ Q (.ref h1.objs.size) s') hat hS hLv ⟨rfl, ?_⟩) (fun f s' hf => ?_) fun _ _ e => e
    · obtain ⟨ep, hep⟩ := sortedHeap_at (out := (sortVals (dataKind (sortingHeap (h1.push (seqObj "list" vs.toArray 0)) h1.objs.size vs) (bs.map enc)) false vs vs).toArray) hat
      refine h h1 _ _ ep k1 (fun b o q => ?_) hep (by rw [sortVals_length false rfl]; exact e.length) (sortVals_data false e er' hal)
      rw [sortedHeap_old (Nat.ne_of_lt (Heap.lt_size q)) (by rw [size_push']; exact Nat.lt_succ_of_lt (Heap.lt_size q))]
      exact hold b o q
    · obtain ⟨rfl, hfin⟩ := hf
      exact ⟨_, rfl, wpAny_pure ⟨_, rfl, hfin⟩⟩
end
end PySem.W
namespace Fe
open PySem L2
section
variable {X : Cx} {ρ ρ' : List Addr} {H H' : Hp} {S S' : Sto} {W : Value → Option Addr → Hp → Prop} {Q : V → Hp → Prop} {v w : V} {x y r : Rv}

/-! ### sorted -/
def rSortD (K : PySem.W.Frag) : List V → Hp → VK → Prop := fun vs H Q => ∃ (a : Addr) (bs : List (V × PyData)), vs = [.ref a] ∧ (SqL K H a (bs.map Prod.fst) ∨ SqT K H a (bs.map Prod.fst)) ∧ (∀ b ∈ bs, Dp K H b.1 b.2) ∧ PySem.W.AllAlike (bs.map Prod.snd) ∧ PySem.W.Sortable (bs.map Prod.snd) ∧
  bs.length ≤ sizeLine ∧ (∀ b ∈ bs, b.2.depth ≤ 60) ∧ ∀ p, H p = none → Q (.ref p) (upd H p (.lst ((bs.mergeSort (PySem.W.dataLe false Prod.snd)).map Prod.fst)))
theorem each_of_vals {pins : List (Addr × Obj)} {σ : St} {s : Shared} (I : Inv X pins σ H s) : ∀ {bs : List (V × PyData)} {us : List Value}, Vals (bs.map Prod.fst) us → (∀ b ∈ bs, Dp X.K H b.1 b.2) →
    PySem.W.EachIs (fun u (b : V × PyData) => RelV b.1 u) us bs ∧ PySem.W.EachIs (fun u (b : V × PyData) => ∃ as, Reads s.heap u b.2 as) us bs
  | [], us, r, _ => by
    cases r
    exact ⟨.nil, .nil⟩
  | b :: bs, us, r, h => by
    cases r with
    | cons r1 rs =>
      obtain ⟨e1, e2⟩ := each_of_vals I (bs := bs) rs fun c hc => h c (List.mem_cons_of_mem _ hc)
      exact ⟨.cons r1 e1, .cons (Dp.reads I _ _ _ (h b List.mem_cons_self) r1) e2⟩
theorem vals_of_each : ∀ {us : List Value} {bs : List (V × PyData)}, PySem.W.EachIs (fun u (b : V × PyData) => RelV b.1 u) us bs → Vals (bs.map Prod.fst) us
  | _, _, .nil => .nil
  | _, _, .cons r t => .cons r (vals_of_each t)
theorem cr_sortD (hu : X.A.units + 100 < cLine) : CallR X (.builtin "sorted") (rSortD X.K) := by
  intro pins s σ H vs us Q I r h
  obtain ⟨a, bs, rfl, hs, hd, hal, hk, hz, hdp, q⟩ := h
  rw [Vals.ref1 r]
  rcases hs with hs | hs
  rotate_left
  · obtain ⟨its, rv, ⟨o, ho, hc, n, hdt⟩, _⟩ := I.tuple hs
    obtain ⟨e1, e2⟩ := each_of_vals I rv hd
    refine PySem.W.sorted_tup (R := fun u (b : V × PyData) => RelV b.1 u) (enc := Prod.snd) ho hc hdt e1 e2 hal hk hz (fun b hb => by have := hdp b hb; omega) fun h1 h2 out ep k1 k2 hat hlen he => ?_
    have hv := vals_of_each he
    have hl2 : ((bs.mergeSort (PySem.W.dataLe false Prod.snd)).map Prod.fst).length ≤ sizeLine := by rw [hv.length, hlen]; exact hz
    have hn : H h1.objs.size = none := (I.hok.kept k1).fresh (Nat.le_refl _)
    have hn2 : s.heap.get? h1.objs.size = none := by
      cases q : s.heap.get? h1.objs.size with
      | none => rfl
      | some u => exact absurd (Heap.lt_size (k1 _ _ q)) (Nat.lt_irrefl _)
    exact ⟨.ref _, upd H h1.objs.size (.lst _), I.laidN (t' := s.toks) (fun b u q => k2 b u (k1 b u q)) hn2 hn ⟨hl2, out, ep, hv, hat⟩, rfl, q _ hn⟩
  obtain ⟨its, rv, hl, _⟩ := I.list hs
  obtain ⟨e1, e2⟩ := each_of_vals I rv hd
  refine PySem.W.sorted_data (R := fun u (b : V × PyData) => RelV b.1 u) (enc := Prod.snd) hl.isList e1 e2 hal hk hz (fun b hb => by have := hdp b hb; omega) fun out h1 h2 => ?_
  have hv := vals_of_each h2
  obtain ⟨ep, he'⟩ := PyProof.Rows.sortedAll_at s.heap its out.toArray
  have hlen : ((bs.mergeSort (PySem.W.dataLe false Prod.snd)).map Prod.fst).length ≤ sizeLine := by rw [hv.length, h1]; exact hz
  exact ⟨.ref _, upd H (s.heap.objs.size + 1) (.lst _), I.laid (t' := s.toks) (fun _ _ => PyProof.Rows.sortedAll_old) (Nat.le_succ _) ⟨hlen, out, ep, hv, he'⟩, rfl, q _ (I.hok.fresh (Nat.le_succ _))⟩

/-! ### the table -/
def bfName : Bf → Str
  | .len => "len"
  | .abs => "abs"
  | .max => "max"
  | .min => "min"
  | .sum => "sum"
  | .all => "all"
  | .any => "any"
  | .tuple => "tuple"
  | .list => "list"
  | .int => "int"
  | .str => "str"
  | .sorted => "sorted"
def bfVal : Bf → Value
  | .len => .builtin "len"
  | .abs => .builtin "abs"
  | .max => .builtin "max"
  | .min => .builtin "min"
  | .sum => .builtin "sum"
  | .all => .builtin "all"
  | .any => .builtin "any"
  | .tuple => .type "tuple"
  | .list => .type "list"
  | .int => .type "int"
  | .str => .type "str"
  | .sorted => .builtin "sorted"
theorem bf_boot : ∀ f : Bf, bootBuiltins (bfName f) = some (bfVal f)
  | .len => by decide +kernel
  | .abs => by decide +kernel
  | .max => by decide +kernel
  | .min => by decide +kernel
  | .sum => by decide +kernel
  | .all => by decide +kernel
  | .any => by decide +kernel
  | .tuple => by decide +kernel
  | .list => by decide +kernel
  | .int => by decide +kernel
  | .str => by decide +kernel
  | .sorted => by decide +kernel
def rB (K : PySem.W.Frag) : Bf → List V → Hp → VK → Prop
  | .len => fun xs H Q => ∃ x n, xs = [x] ∧ LenV K x H n ∧ Q (.int n) H
  | .abs => fun xs H Q => ∃ i, xs = [.int i] ∧ Q (.int (if i < 0 then -i else i)) H
  | .max => fun xs H Q => (∃ i j, xs = [.int i, .int j] ∧ Q (.int (if j > i then j else i)) H) ∨ rMax K xs H Q
  | .min => fun xs H Q => (∃ i j, xs = [.int i, .int j] ∧ Q (.int (if j < i then j else i)) H) ∨ rMin K xs H Q
  | .sum => rSum K
  | .all => rAll K
  | .any => rAny K
  | .tuple => fun xs H Q => ∃ p ys, xs = [.ref p] ∧ ((SqL K H p ys ∧ ∀ l, H l = none → Q (.ref l) (upd H l (.tup ys))) ∨ (SqT K H p ys ∧ Q (.ref p) H))
  | .list => fun xs H Q => (∃ p ys, xs = [.ref p] ∧ (SqL K H p ys ∨ SqT K H p ys) ∧ ∀ l, H l = none → Q (.ref l) (upd H l (.lst ys))) ∨ (∃ (a : Addr) (kvs : List (Key × V)), xs = [.ref a] ∧ Rd H a (.dK kvs) ∧ ∀ p, H p = none → Q (.ref p) (upd H p (.lst (kvs.map fun kv => kV kv.1))))
  | .int => fun xs H Q => ((∃ i, xs = [.int i] ∧ Q (.int i) H) ∨ ∃ k, xs = [.bl k] ∧ Q (.int (if k then 1 else 0)) H) ∨ (∃ a n, xs = [.str a] ∧ PySem.intText? a = some n ∧ a.length ≤ 640 ∧ Q (.int n) H)
  | .str => fun xs H Q => ∃ i, xs = [.int i] ∧ i.natAbs.log2 < 1920 ∧ Q (.str (toString i)) H
  | .sorted => rSortD K
theorem cr_B (hc : X.calm = true) (hu : X.A.units + 100 < cLine) : ∀ f : Bf, CallR X (bfVal f) (rB X.K f)
  | .len => call_len
  | .abs => call_abs
  | .max => (call_max2 hc).or (cr_max hc)
  | .min => (call_min2 hc).or (cr_min hc)
  | .sum => cr_sum hc
  | .all => cr_all hc
  | .any => cr_any hc
  | .tuple => call_tuple_of
  | .list => call_list_of.or (call_listD hc)
  | .int => call_int1.or call_int_str
  | .str => call_str_int
  | .sorted => cr_sortD hu

/-! ### what they tell -/
theorem maxI_mem : ∀ (m : Int) (l : List Int), maxI m l ∈ m :: l ∧ ∀ y ∈ m :: l, y ≤ maxI m l
  | m, [] => ⟨by simp [maxI], by simp [maxI]⟩
  | m, x :: r => by
    obtain ⟨h1, h2⟩ := maxI_mem (if x > m then x else m) r
    simp only [maxI]
    refine ⟨?_, fun y hy => ?_⟩
    · rcases List.mem_cons.mp h1 with h | h
      · rw [h]
        split <;> simp
      · exact List.mem_cons_of_mem _ (List.mem_cons_of_mem _ h)
    · have hm : (if x > m then x else m) ≤ maxI (if x > m then x else m) r := h2 _ List.mem_cons_self
      have c1 : m ≤ (if x > m then x else m) := by split <;> omega
      have c2 : x ≤ (if x > m then x else m) := by split <;> omega
      rcases List.mem_cons.mp hy with rfl | hy
      · exact Int.le_trans c1 hm
      · rcases List.mem_cons.mp hy with rfl | hy
        · exact Int.le_trans c2 hm
        · exact h2 y (List.mem_cons_of_mem _ hy)
theorem minI_mem : ∀ (m : Int) (l : List Int), minI m l ∈ m :: l ∧ ∀ y ∈ m :: l, minI m l ≤ y
  | m, [] => ⟨by simp [minI], by simp [minI]⟩
  | m, x :: r => by
    obtain ⟨h1, h2⟩ := minI_mem (if x < m then x else m) r
    simp only [minI]
    refine ⟨?_, fun y hy => ?_⟩
    · rcases List.mem_cons.mp h1 with h | h
      · rw [h]
        split <;> simp
      · exact List.mem_cons_of_mem _ (List.mem_cons_of_mem _ h)
    · have hm : minI (if x < m then x else m) r ≤ (if x < m then x else m) := h2 _ List.mem_cons_self
      have c1 : (if x < m then x else m) ≤ m := by split <;> omega
      have c2 : (if x < m then x else m) ≤ x := by split <;> omega
      rcases List.mem_cons.mp hy with rfl | hy
      · exact Int.le_trans hm c1
      · rcases List.mem_cons.mp hy with rfl | hy
        · exact Int.le_trans hm c2
        · exact h2 y (List.mem_cons_of_mem _ hy)
theorem maxL_snd {K : PySem.W.Frag} {b : Bool} {xs : List Val} (e : maxL b xs = some r) : ∃ i js, intsOf xs = some (i :: js) ∧ r = .v (.int (if b then maxI i js else minI i js)) := by
  unfold maxL at e
  split at e
  · rename_i i t
    cases q : intsOf t with
    | none => rw [q] at e; cases e
    | some js =>
      rw [q] at e
      cases e
      exact ⟨i, js, by simp [intsOf, q], rfl⟩
  · cases e
theorem pd_mem {xs : List Val} : Val.pdL xs = xs.map Val.pd := by
  induction xs with
  | nil => rfl
  | cons x r ih => rw [Val.pdL, ih, List.map_cons]
theorem bel_mem : ∀ {xs : List Val} {n : Nat}, Val.belL n xs = true → ∀ x ∈ xs, x.bel n = true
  | y :: r, n, h, x, hx => by
    simp only [Val.belL, Bool.and_eq_true] at h
    rcases List.mem_cons.mp hx with rfl | hx
    · exact h.1
    · exact bel_mem h.2 x hx
theorem RVs.zip {K : PySem.W.Frag} : ∀ {vs : List V} {xs : List Val}, RVs K ρ H vs xs → (vs.zip xs).map Prod.fst = vs ∧ (vs.zip xs).map Prod.snd = xs ∧ ∀ p ∈ vs.zip xs, RV K ρ H p.1 p.2
  | _, _, .nil => ⟨rfl, rfl, by simp⟩
  | _, _, .cons h r => by
    obtain ⟨e1, e2, h3⟩ := RVs.zip r
    refine ⟨by simp [e1], by simp [e2], fun p hp => ?_⟩
    rw [List.zip_cons_cons] at hp
    rcases List.mem_cons.mp hp with rfl | hp
    · exact h
    · exact h3 p hp
theorem RVs.unzip {K : PySem.W.Frag} : ∀ {ps : List (V × Val)}, (∀ p ∈ ps, RV K ρ H p.1 p.2) → RVs K ρ H (ps.map Prod.fst) (ps.map Prod.snd)
  | [], _ => .nil
  | p :: ps, h => .cons (h p List.mem_cons_self) (RVs.unzip fun q hq => h q (List.mem_cons_of_mem _ hq))
theorem sort_snd {K : PySem.W.Frag} {xs : List Val} (R : RS K ρ H S) {a : Addr} {vs : List V} (h1 : SqL K H a vs ∨ SqT K H a vs) (r1 : RVs K ρ H vs xs) (hs : sortOk xs = true) (h : OutE K ρ H W Q (.ok (.t (.lst (sortV xs))) S)) : rSortD K [.ref a] H Q := by
  unfold sortOk at hs
  simp only [Bool.and_eq_true, Bool.or_eq_true, List.all_eq_true, decide_eq_true_eq] at hs
  obtain ⟨⟨⟨⟨hb, hal⟩, hk⟩, hz⟩, hd⟩ := hs
  obtain ⟨e1, e2, h3⟩ := RVs.zip r1
  have m1 : ((vs.zip xs).map fun p => (p.1, p.2.pd)).map Prod.fst = vs := by rw [List.map_map]; exact e1
  have m2 : ((vs.zip xs).map fun p => (p.1, p.2.pd)).map Prod.snd = xs.map Val.pd := by
    conv => rhs; rw [← e2]
    rw [List.map_map, List.map_map]; rfl
  have inx : ∀ p ∈ vs.zip xs, p.2 ∈ xs := fun p hp => by rw [← e2]; exact List.mem_map_of_mem hp
  refine ⟨a, (vs.zip xs).map fun p => (p.1, p.2.pd), rfl, by rw [m1]; exact h1, fun b hb' => ?_, ?_, ?_, ?_, fun b hb' => ?_, fun p hp => ?_⟩
  · obtain ⟨q, hq, rfl⟩ := List.mem_map.mp hb'
    exact RV.dp (h3 q hq) (bel_mem hb _ (inx q hq))
  · rw [m2]
    intro d hd1 d' hd2
    obtain ⟨q, hq, rfl⟩ := List.mem_map.mp hd1
    obtain ⟨q', hq', rfl⟩ := List.mem_map.mp hd2
    exact hal q hq q' hq'
  · rw [m2]
    rcases hk with hk | hk
    · left
      intro d hd1
      obtain ⟨q, hq, rfl⟩ := List.mem_map.mp hd1
      have z := hk q hq
      unfold tupNE at z
      split at z
      · exact ⟨_, _, rfl⟩
      · cases z
    · right
      intro d hd1
      obtain ⟨q, hq, rfl⟩ := List.mem_map.mp hd1
      have z := hk q hq
      unfold notTN at z
      split at z
      · exact ⟨(fun z => nomatch z), (fun _ z => nomatch z)⟩
      · exact ⟨(fun z => nomatch z), (fun _ z => nomatch z)⟩
      · exact ⟨(fun z => nomatch z), (fun _ z => nomatch z)⟩
      · cases z
  · have : ((vs.zip xs).map fun p => (p.1, p.2.pd)).length = xs.length := by
      rw [← List.length_map (f := Prod.snd), m2, List.length_map]
    rw [this]; exact hz
  · obtain ⟨q, hq, rfl⟩ := List.mem_map.mp hb'
    exact hd _ (inx q hq)
  · have f1 : (((vs.zip xs).map fun p => (p.1, p.2.pd)).mergeSort (PySem.W.dataLe false Prod.snd)).map Prod.fst = ((vs.zip xs).mergeSort fun p q => !PySem.W.dataLt q.2.pd p.2.pd).map Prod.fst := by
      rw [← List.map_mergeSort (r := fun p q => !PySem.W.dataLt q.2.pd p.2.pd) (s := PySem.W.dataLe false Prod.snd) (f := fun p : V × Val => (p.1, p.2.pd)) (fun a _ b _ => rfl), List.map_map]
      rfl
    have f2 : ((vs.zip xs).mergeSort fun p q => !PySem.W.dataLt q.2.pd p.2.pd).map Prod.snd = sortV xs := by
      rw [List.map_mergeSort (r := fun (p q : V × Val) => !PySem.W.dataLt q.2.pd p.2.pd) (s := fun (a b : Val) => !PySem.W.dataLt b.pd a.pd) (f := Prod.snd) (fun a _ b _ => rfl), e2]
      rfl
    rw [f1]
    refine h.lst R ?_ hp
    rw [← f2]
    exact RVs.unzip fun q hq => h3 q ((List.mergeSort_perm _ _).mem_iff.mp hq)

/-- one argument -/
theorem blt1_snd {K : PySem.W.Frag} {f : Bf} (R : RS K ρ H S) (hx : RR K ρ H v x) (e : blt1 S f x = some r) (h : OutE K ρ H W Q (.ok r S)) : rB K f [v] H Q := by
  unfold blt1 at e
  split at e
  · split at e
    · rename_i hz
      cases e
      rw [hx.str]
      exact ⟨_, _, rfl, ⟨hz, rfl⟩, h.val R (.int _)⟩
    · cases e
  · cases q : seqOf S x with
    | none => rw [q] at e; cases e
    | some xs =>
      rw [q] at e
      cases e
      obtain ⟨a, vs, rfl, h1, r1⟩ := RR.seqOf R hx q
      refine ⟨_, xs.length, rfl, ?_, h.val R (.int _)⟩
      rcases h1 with h1 | h1
      · exact .inl ⟨vs, h1, r1.length.symm⟩
      · exact .inr ⟨vs, h1, r1.length.symm⟩
  · cases e
    rw [hx.int]
    exact ⟨_, rfl, h.val R (.int _)⟩
  · cases q : lstOf S x with
    | none => rw [q] at e; cases e
    | some xs =>
      rw [q] at e
      obtain ⟨a, vs, rfl, h1, r1⟩ := RR.lstOf R hx q
      obtain ⟨i, js, hi, rfl⟩ := maxL_snd (K := K) e
      have z := r1.ints hi
      refine .inr ⟨a, i :: js, rfl, by rw [← z]; exact h1, by simp, fun m hm hle => ?_⟩
      obtain ⟨m1, m2⟩ := maxI_mem i js
      have : m = maxI i js := by
        have := hle _ m1
        have := m2 _ hm
        omega
      rw [this]
      exact h.val R (.int _)
  · cases q : lstOf S x with
    | none => rw [q] at e; cases e
    | some xs =>
      rw [q] at e
      obtain ⟨a, vs, rfl, h1, r1⟩ := RR.lstOf R hx q
      obtain ⟨i, js, hi, rfl⟩ := maxL_snd (K := K) e
      have z := r1.ints hi
      refine .inr ⟨a, i :: js, rfl, by rw [← z]; exact h1, by simp, fun m hm hle => ?_⟩
      obtain ⟨m1, m2⟩ := minI_mem i js
      have : m = minI i js := by
        have := hle _ m1
        have := m2 _ hm
        omega
      rw [this]
      exact h.val R (.int _)
  · cases q : lstOf S x with
    | none => rw [q] at e; cases e
    | some xs =>
      rw [q] at e
      obtain ⟨a, vs, rfl, h1, r1⟩ := RR.lstOf R hx q
      simp only [Option.bind_some] at e
      cases q2 : intsOf xs with
      | none => rw [q2] at e; cases e
      | some is =>
        rw [q2] at e
        cases e
        exact ⟨a, is, rfl, by rw [← r1.ints q2]; exact h1, h.val R (.int _)⟩
  · cases q : lstOf S x with
    | none => rw [q] at e; cases e
    | some xs =>
      rw [q] at e
      obtain ⟨a, vs, rfl, h1, r1⟩ := RR.lstOf R hx q
      simp only [Option.bind_some] at e
      cases q2 : blsOf xs with
      | none => rw [q2] at e; cases e
      | some is =>
        rw [q2] at e
        cases e
        exact ⟨a, is, rfl, by rw [← r1.bls q2]; exact h1, h.val R (.bl _)⟩
  · cases q : lstOf S x with
    | none => rw [q] at e; cases e
    | some xs =>
      rw [q] at e
      obtain ⟨a, vs, rfl, h1, r1⟩ := RR.lstOf R hx q
      simp only [Option.bind_some] at e
      cases q2 : blsOf xs with
      | none => rw [q2] at e; cases e
      | some is =>
        rw [q2] at e
        cases e
        exact ⟨a, is, rfl, by rw [← r1.bls q2]; exact h1, h.val R (.bl _)⟩
  · cases q : seqOf S x with
    | none => rw [q] at e; cases e
    | some xs =>
      rw [q] at e
      cases e
      obtain ⟨a, vs, rfl, h1, r1⟩ := RR.seqOf R hx q
      refine ⟨a, vs, rfl, ?_⟩
      rcases h1 with h1 | h1
      · exact .inl ⟨h1, fun l hl => h.tup R r1 hl⟩
      · exact .inr ⟨h1, h.val R (.tup h1 r1)⟩
  · split at e
    · rename_i kvs hd
      cases e
      obtain ⟨a, ks, rfl, h1, r1⟩ := RR.dicW R hx hd
      exact .inr ⟨a, ks, rfl, .inl h1, fun l hl => h.lst R r1.keys hl⟩
    · cases q : seqOf S x with
      | none => rw [q] at e; cases e
      | some xs =>
        rw [q] at e
        cases e
        obtain ⟨a, vs, rfl, h1, r1⟩ := RR.seqOf R hx q
        exact .inl ⟨a, vs, rfl, h1, fun l hl => h.lst R r1 hl⟩
  · cases e
    rw [hx.int]
    exact .inl (.inl ⟨_, rfl, h.val R (.int _)⟩)
  · cases e
    rw [hx.bl]
    exact .inl (.inr ⟨_, rfl, h.val R (.int _)⟩)
  · split at e
    · rename_i n hn
      split at e
      · rename_i hz
        cases e
        rw [hx.str]
        exact .inr ⟨_, n, rfl, hn, hz, h.val R (.int _)⟩
      · cases e
    · cases e
  · cases q : seqOf S x with
    | none => rw [q] at e; cases e
    | some xs =>
      rw [q] at e
      simp only [Option.bind_some] at e
      split at e
      · rename_i hs
        cases e
        obtain ⟨a, vs, rfl, h1, r1⟩ := RR.seqOf R hx q
        exact sort_snd R h1 r1 hs h
      · cases e
  · split at e
    · rename_i hz
      cases e
      rw [hx.int]
      exact ⟨_, rfl, hz, h.val R (.str _)⟩
    · cases e
  · cases e
end
end Fe

/-! Fe5: judgements, expressions -/
namespace Fe
open PySem L2

/-- what the program's names stand for -/
structure Glb where
  fns : List (Str × Nat)
  cons : List (Str × Val)
  ecl : List (Str × List Str) := []
  ask : List Str := []
/-- a class of errors: those that it is one of, among those that are asked for -/
structure EC (K : PySem.W.Frag) (mg : Str → Option Value) (ask : List Str) (c : Str) (sups : List Str) (C : Addr) : Prop where
  ns : PySem.W.nsIn K mainGlobals c = some (some (.ref C))
  mgc : mg c = some (.ref C)
  kp : PySem.W.keepIn K (.ref C) = true
  ex : PySem.W.excIn K C [.type "ValueError", .type "Exception", .type "BaseException", .type "object"] "ValueError.__new__" = true
  sb : PySem.W.subIn K (.ref C) (.type "BaseException") = some true
  ty : PySem.W.typeIn K (.ref C) = some (.type "type")
  ec : ExcC K C
  as : ∀ n ∈ ask, ∃ (cv : Value) (v : V), (mg n = some cv ∨ (mg n = none ∧ bootBuiltins n = some cv ∧ n ≠ "__name__")) ∧ RelV v cv ∧ (∀ u, RelV v u → u = cv) ∧ PySem.W.kitOne K (.ref C) cv = some (sups.contains n) ∧ PySem.W.exmOne K (.ref C) cv = some (sups.contains n)
def bltNames : List Str := ["len", "abs", "max", "min", "sum", "all", "any", "tuple", "list", "int", "str", "sorted", "range", "enumerate", "zip", "reversed", "isinstance", "bool", "dict"]
/-- a def's promise: what the interpreter tells -/
def spF (K : PySem.W.Frag) (T : Fns) (f : Str) (n : Nat) : Sp := fun vs H Q E => ∃ ρ S xs, vs.length = n ∧ RVs K ρ H vs xs ∧ RS K ρ H S ∧ OutE K ρ H E Q (T f xs S)
structure Gd (X : Cx) (G : Glb) (T : Fns) (W : WX) : Prop where
  calm : X.calm = true
  nd : X.N.Nodup
  un : X.A.units + 100 < cLine
  tk : Takes X W
  blt : ∀ x ∈ bltNames, X.mg x = none
  fns : ∀ f n, (f, n) ∈ G.fns → ∃ (a : Addr) (fd : FuncData) (ps : List Str) (k : Nat), FnOk X.prog X.w X.K X.mg X.base (L2.CX X.prog X.w) k a fd ps (spF X.K T f n) ∧ Room k X.A ∧ X.mg f = some (.ref a) ∧ PySem.W.keepIn X.K (.ref a) = true ∧ Binds X.K fd ps []
  cons : ∀ x v, (x, v) ∈ G.cons → ∃ u w, X.mg x = some u ∧ RelV w u ∧ ∀ ρ H, RV X.K ρ H w v
  exc : ∀ c sups, (c, sups) ∈ G.ecl → ∃ C, EC X.K X.mg G.ask c sups C

abbrev wAt (W : WX) (σ : St) : Value → Option Addr → Hp → Prop := fun c d H' => W c d σ H'
def SE (X : Cx) (T : Fns) (W : WX) (e : Expr) (e' : E) : Prop := ∃ t, PE X e t ∧ ∀ ρ σ env H S Q, RE X.K ρ H σ env → RS X.K ρ H S → OutE X.K ρ H (wAt W σ) Q (evE T e' env S) → t σ H Q
def ST (X : Cx) (T : Fns) (W : WX) (e : Expr) (e' : E) : Prop := ∃ t, PT X e t ∧ ∀ ρ σ env H S Q, RE X.K ρ H σ env → RS X.K ρ H S → OutT X.K ρ H (wAt W σ) Q (evT T e' env S) → t σ H Q
def SA (X : Cx) (T : Fns) (W : WX) (e : List Expr) (e' : Es) : Prop := ∃ t, PA X e t ∧ ∀ ρ σ env H S Q, RE X.K ρ H σ env → RS X.K ρ H S → OutA X.K ρ H (wAt W σ) Q (evA T e' env S) → t σ H Q
inductive RRs (K : PySem.W.Frag) (ρ : List Addr) (H : Hp) : List V → List Rv → Prop
  | nil : RRs K ρ H [] []
  | cons {v : V} {vs : List V} {x : Rv} {xs : List Rv} : RR K ρ H v x → RRs K ρ H vs xs → RRs K ρ H (v :: vs) (x :: xs)
theorem RRs.ext {K : PySem.W.Frag} {ρ ρ' : List Addr} {H H' : Hp} {S : Sto} (R : RS K ρ H S) (e : Ext ρ H ρ' H') : ∀ {vs : List V} {xs : List Rv}, RRs K ρ H vs xs → RRs K ρ' H' vs xs
  | _, _, .nil => .nil
  | _, _, .cons h r => .cons (h.ext R e) (RRs.ext R e r)
def OutR (K : PySem.W.Frag) (ρ : List Addr) (H : Hp) (W : Value → Option Addr → Hp → Prop) (Q : List V → Hp → Prop) (r : Res (List Rv)) : Prop := OutG (fun a ρ' H' _ => ∀ vs, RRs K ρ' H' vs a → Q vs H') K ρ H W r
def SW (X : Cx) (T : Fns) (W : WX) (e : List Expr) (e' : Es) : Prop := ∃ t, PA X e t ∧ ∀ ρ σ env H S Q, RE X.K ρ H σ env → RS X.K ρ H S → OutR X.K ρ H (wAt W σ) Q (evR T e' env S) → t σ H Q
def SO (X : Cx) (T : Fns) (W : WX) (e : Option Expr) (e' : Eo) : Prop := ∃ t, PO X e t ∧ ∀ ρ σ env H S Q, RE X.K ρ H σ env → RS X.K ρ H S → OutG (fun a _ H' _ => Q a H') X.K ρ H (wAt W σ) (evO T e' env S) → t σ H Q
def STs (X : Cx) (T : Fns) (W : WX) (e : List Expr) (e' : Eo) : Prop := ∃ t, PTs X e t ∧ ∀ ρ σ env H S Q, RE X.K ρ H σ env → RS X.K ρ H S → OutT X.K ρ H (wAt W σ) Q (evC T e' env S) → t σ H Q

section
variable {X : Cx} {T : Fns} {W : WX} {G : Glb} {pos : Pos} {e a b c : Expr} {a' b' c' : E} {es : List Expr} {es' : Es}

/-! ### shapes -/
def notStar : Expr → Bool
  | .Starred _ _ => false
  | _ => true
theorem star_cons (env : PySem.Env) {e : Expr} {es : List Expr} (h : notStar e = true) : starEach (e :: es) env = (false, eval e env) :: starEach es env := by
  cases e <;> first | rfl | exact Bool.noConfusion h
theorem star_plain (env : PySem.Env) (pos : Pos) : ∀ {es : List Expr}, es.all notStar = true → (backTo pos (starEach es env)).any (·.1) = false
  | [], _ => rfl
  | e :: es, h => by
    simp only [List.all_cons, Bool.and_eq_true] at h
    rw [star_cons env h.1]
    show (false || (backTo pos (starEach es env)).any (·.1)) = false
    rw [star_plain env pos h.2]
    rfl
theorem star_all (env : PySem.Env) (pos : Pos) : ∀ {es : List Expr}, es.all notStar = true → (backTo pos (starEach es env)).all (fun x => !x.1) = true
  | [], _ => rfl
  | e :: es, h => by
    simp only [List.all_cons, Bool.and_eq_true] at h
    rw [star_cons env h.1]
    show (true && (backTo pos (starEach es env)).all (fun x => !x.1)) = true
    rw [star_all env pos h.2]
    rfl
/-- what is tested by its truth alone -/
def plainT : Expr → Bool
  | .UnaryOp .Not _ _ => false
  | .BoolOp _ _ _ => false
  | .IfExp _ _ _ _ => false
  | .Compare _ _ _ _ => false
  | _ => true
theorem plain_true {env : PySem.Env} {e : Expr} (h : plainT e = true) : ∀ whole, isTrue e env whole = (do let v ← whole; standAt e.pos; holding [v] (truthy v)) := by
  intro whole
  cases e with
  | UnaryOp op x p =>
    cases op <;> first | rfl | exact Bool.noConfusion h
  | BoolOp _ _ _ => exact Bool.noConfusion h
  | IfExp _ _ _ _ => exact Bool.noConfusion h
  | Compare _ _ _ _ => exact Bool.noConfusion h
  | _ => rfl
/-- no call of super: its base is itself -/
def plainBase : Expr → Bool
  | .Call _ _ _ _ => false
  | _ => true
theorem base_plain {env : PySem.Env} {e : Expr} {f : Str} (h : plainBase e = true) : attributeBase e f env (eval e env) = eval e env := by
  cases e <;> first | rfl | exact Bool.noConfusion h
def notComp : Expr → Bool
  | .ListComp _ _ _ _ => false
  | .SetComp _ _ _ _ => false
  | .DictComp _ _ _ _ _ => false
  | _ => true
theorem swaps_not {e : Expr} {tg : Option Expr} {l : Nat} {env : PySem.Env} (h : notComp e = true) : swapsWith e tg l env = pure false := by
  cases e <;> first | rfl | exact Bool.noConfusion h
def notSet : Expr → Bool
  | .Set _ _ _ => false
  | _ => true
theorem folded_not {e : Expr} {env : PySem.Env} (h : notSet e = true) : ∀ x, foldedSetIterable e env x = pure x := by
  intro x
  cases e <;> first | rfl | exact Bool.noConfusion h
theorem marks_not {op : CmpOp} {e : Expr} (h : notSet e = true) : behindInMarks op e = false := by
  cases e <;> first | rfl | exact Bool.noConfusion h
def notSlice : Expr → Bool
  | .Slice _ _ _ _ => false
  | _ => true
theorem plain_ix {e : Expr} (h : notSlice e = true) : PlainIx e := by
  intro o i
  cases e <;> first | rfl | exact Bool.noConfusion h
theorem mem_get {x : Str} {l : List Str} (h : l.contains x = true) : x ∈ l := List.elem_iff.mp h

/-! ### names and constants -/
def visB (sc : Scope) (x : Str) : Bool := match sc.names.lookup x with
  | some .local => true
  | some .cell => true
  | some .free => true
  | _ => false
theorem vis_of {sc : Scope} {x : Str} (h : visB sc x = true) : Vis sc x := by
  unfold visB at h
  split at h <;> first | exact .inl (by assumption) | exact .inr (.inl (by assumption)) | exact .inr (.inr (by assumption)) | cases h
def glB (sc : Scope) (x : Str) : Bool := match sc.names.lookup x with
  | some .globalImplicit => true
  | _ => false
theorem gl_of {x : Str} (h : glB X.env.scope x = true) : Gl X x := by
  unfold glB at h
  split at h
  · assumption
  · cases h
theorem SE.var {i : Nat} {x : Str} (hN : X.N[i]? = some x) (hv : visB X.env.scope x = true) (hd : (x == ("__debug__" : Str)) = false) (hcd : (x == ("__classdict__" : Str)) = false) : SE X T W (.Name x pos) (.var i) := by
  refine ⟨_, pe_var hN (vis_of hv) hd hcd, fun ρ σ env H S Q he hs h => ?_⟩
  simp only [evE, ev2, dup] at h
  split at h
  · rename_i y hy
    obtain ⟨v, h1, h2⟩ := he.at' i y hy
    exact ⟨v, h1, h.val hs h2⟩
  · exact h.elim
def cstPy : Val → Option Const
  | .non => some .none
  | .bl b => some (.bool b)
  | .int i => some (.int i)
  | .str s => some (.str s)
  | _ => none
theorem SE.cst {x : Val} {k : Const} {j : Nat} (hc : cstPy x = some k) : SE X T W (.Constant k j pos) (.cst x) := by
  cases x with
  | non => cases hc; exact ⟨_, pe_non, fun ρ σ env H S Q he hs h => h.val hs .non⟩
  | bl b => cases hc; exact ⟨_, pe_bl, fun ρ σ env H S Q he hs h => h.val hs (.bl b)⟩
  | int b => cases hc; exact ⟨_, pe_int, fun ρ σ env H S Q he hs h => h.val hs (.int b)⟩
  | str b => cases hc; exact ⟨_, pe_str, fun ρ σ env H S Q he hs h => h.val hs (.str b)⟩
  | tup _ => cases hc
  | fls _ => cases hc
  | ref _ => cases hc
theorem SE.glb {x : Str} {v : Val} (g : Gd X G T W) (hx : (x, v) ∈ G.cons) (hg : glB X.env.scope x = true) (hd : (x == ("__debug__" : Str)) = false) : SE X T W (.Name x pos) (.glb x v) := by
  obtain ⟨u, w, hm, r, rv⟩ := g.cons x v hx
  exact ⟨_, pe_glob (gl_of hg) hm r hd, fun ρ σ env H S Q he hs h => h.val hs (rv ρ H)⟩

/-! ### arguments, displays -/
theorem SA.nil : SA X T W [] .nil := ⟨_, pa_nil, fun ρ σ env H S Q he hs h => h ρ H Ext.refl hs [] .nil⟩
theorem SA.cons (ha : SE X T W e a') (hr : SA X T W es es') (hn : notStar e = true) : SA X T W (e :: es) (.cons a' es') := by
  obtain ⟨t, p, s⟩ := ha
  obtain ⟨t2, p2, s2⟩ := hr
  refine ⟨_, pa_cons p p2 (star_cons _ hn), fun ρ σ env H S Q he hs h => ?_⟩
  refine s ρ σ env H S _ he hs ((OutE.bnd0 h).imp fun v H1 ⟨x, S1, ρ1, po, h1⟩ => ?_)
  obtain ⟨ρ2, pv⟩ := po.lay
  have h2 : OutA X.K ρ2 H1 (wAt W σ) (fun vs H2 => Q (v :: vs) H2) (evA T es' env (Fe.lay x S1).2) := by
    refine OutG.imp (OutG.bnd (OutG.mono pv.ext h1)) fun xs ρ3 H3 S3 _ e3 R3 q vs hv => ?_
    exact q ρ3 H3 Ext.refl R3 (v :: vs) (.cons (pv.rel.ext pv.sto e3) hv)
  exact s2 ρ2 σ env H1 _ _ (he.ext hs pv.ext) pv.sto h2
theorem SW.nil : SW X T W [] .nil := ⟨_, pa_nil, fun ρ σ env H S Q he hs h => h ρ H Ext.refl hs [] .nil⟩
theorem SW.cons (ha : SE X T W e a') (hr : SW X T W es es') (hn : notStar e = true) : SW X T W (e :: es) (.cons a' es') := by
  obtain ⟨t, p, s⟩ := ha
  obtain ⟨t2, p2, s2⟩ := hr
  refine ⟨_, pa_cons p p2 (star_cons _ hn), fun ρ σ env H S Q he hs h => ?_⟩
  refine s ρ σ env H S _ he hs ((OutE.bnd h).imp fun v H1 ⟨x, S1, ρ1, po, h1⟩ => ?_)
  have h2 : OutR X.K ρ1 H1 (wAt W σ) (fun vs H2 => Q (v :: vs) H2) (evR T es' env S1) := by
    refine OutG.imp (OutG.bnd h1) fun xs ρ3 H3 S3 _ e3 R3 q vs hv => ?_
    exact q ρ3 H3 Ext.refl R3 (v :: vs) (.cons (po.rel.ext po.sto e3) hv)
  exact s2 ρ1 σ env H1 _ _ (he.ext hs po.ext) po.sto h2
def Es.len : Es → Nat
  | .nil => 0
  | .cons _ r => r.len + 1
theorem evA_len : ∀ (es' : Es) (env : Env) (S : Sto) (xs : List Val) (S' : Sto), evA T es' env S = .ok xs S' → xs.length = es'.len
  | .nil, env, S, xs, S', h => by
    simp only [evA] at h
    cases h
    rfl
  | .cons a r, env, S, xs, S', h => by
    simp only [evA] at h
    cases q : (ev2 T a).1 env S with
    | ok x S1 =>
      rw [q, Res.bind_ok] at h
      cases q2 : evA T r env (lay x S1).2 with
      | ok ys S2 =>
        rw [q2, Res.bind_ok] at h
        cases h
        rw [List.length_cons, evA_len r env _ ys _ q2]
        rfl
      | exc _ _ => rw [q2, Res.bind_exc] at h; cases h
      | bad => rw [q2, Res.bind_bad] at h; cases h
    | exc _ _ => rw [q, Res.bind_exc] at h; cases h
    | bad => rw [q, Res.bind_bad] at h; cases h
theorem SE.tup {k : Nat} (hr : SA X T W es es') (hl : es'.len ≤ 1000) : SE X T W (.Tuple es k pos) (.tup es') := by
  obtain ⟨t, p, s⟩ := hr
  refine ⟨_, pe_tup p, fun ρ σ env H S Q he hs h => ?_⟩
  refine s ρ σ env H S _ he hs (OutG.imp (OutG.toE h) fun xs ρ1 H1 S1 eq e1 R1 q vs hv => ?_)
  refine ⟨?_, fun p hp => q.tup R1 hv hp⟩
  rw [hv.length, evA_len es' env S xs S1 eq]
  exact Nat.le_of_lt (small1000 hl)
theorem SE.lst (hr : SA X T W es es') (hl : es'.len ≤ 1000) : SE X T W (.List es pos) (.lst es') := by
  obtain ⟨t, p, s⟩ := hr
  refine ⟨_, pe_lst p, fun ρ σ env H S Q he hs h => ?_⟩
  refine s ρ σ env H S _ he hs (OutG.imp (OutG.toE h) fun xs ρ1 H1 S1 eq e1 R1 q vs hv => ?_)
  refine ⟨?_, fun p hp => q.lst R1 hv hp⟩
  rw [hv.length, evA_len es' env S xs S1 eq]
  exact Nat.le_of_lt (small1000 hl)
/-! ### a new list that nobody writes any more -/
section
variable {K : PySem.W.Frag} {ρ ρ' ρ1 : List Addr} {H H' H1 : Hp} {S S' : Sto} {D : Addr} {vs ws : List V} {u : HO}
theorem SqT.lk {a : Addr} {us : List V} (hD : H D = some (.lst vs)) (h : SqT K H a us) : SqT K (upd H D u) a us := by
  rcases h with (h | ⟨o, h⟩) | h
  · exact .inl (.inl (by rw [upd_ne (ne_of h hD (by intro z; cases z))]; exact h))
  · exact .inl (.inr ⟨o, by rw [upd_ne (ne_of h hD (by intro z; cases z))]; exact h⟩)
  · exact .inr h
theorem SqF.lk {a : Addr} {us : List V} (hD : H D = some (.lst vs)) (h : SqF K H a us) : SqF K (upd H D u) a us := by
  rcases h with ⟨o, h⟩ | h
  · exact .inl ⟨o, by rw [upd_ne (ne_of h hD (by intro z; cases z))]; exact h⟩
  · exact .inr h
mutual
theorem RV.lk (hD : H D = some (.lst vs)) : ∀ {v : V} {x : Val}, RV K ρ H v x → RV K ρ (upd H D u) v x
  | _, _, .non => .non
  | _, _, .bl b => .bl b
  | _, _, .int b => .int b
  | _, _, .str b => .str b
  | _, _, .tup h r => .tup (SqT.lk hD h) (RVs.lk hD r)
  | _, _, .fls h r => .fls (SqF.lk hD h) (RVs.lk hD r)
  | _, _, .ref h => .ref h
theorem RVs.lk (hD : H D = some (.lst vs)) : ∀ {v : List V} {x : List Val}, RVs K ρ H v x → RVs K ρ (upd H D u) v x
  | _, _, .nil => .nil
  | _, _, .cons h r => .cons (RV.lk hD h) (RVs.lk hD r)
end
theorem RKV.lk (hD : H D = some (.lst vs)) {ks : List (Key × V)} {kvs : List (Val × Val)} (h : RKV K ρ H ks kvs) : RKV K ρ (upd H D u) ks kvs := by
  induction h with
  | nil => exact .nil
  | cons h1 h2 _ ih => exact .cons h1 (h2.lk hD) ih
theorem RO.lk (hD : H D = some (.lst vs)) {a : Addr} {o : Ob} (ne : a ≠ D) (h : RO K ρ H a o) : RO K ρ (upd H D u) a o := by
  cases o with
  | lst xs => obtain ⟨us, h1, h2⟩ := h; exact ⟨us, by rw [upd_ne ne]; exact h1, h2.lk hD⟩
  | dic kvs => obtain ⟨us, h1, h2⟩ := h; exact ⟨us, by rw [upd_ne ne]; exact h1, h2.lk hD⟩
  | ins c fs => exact h.elim
theorem RS.lk (hD : H D = some (.lst vs)) (n : D ∉ ρ) (R : RS K ρ H S) : RS K ρ (upd H D u) S :=
  ⟨R.len, R.nd, fun l a o h1 h2 => (R.at' l a o h1 h2).lk hD fun e => n (by rw [← e]; exact List.mem_of_getElem? h1)⟩
theorem Ext.lk (h0 : H1 D = none) (e : Ext ρ1 H1 ρ H) : Ext ρ1 H1 ρ (upd H D u) :=
  ⟨e.more, fun a o h n => by rw [upd_ne (ne_of_none h h0)]; exact e.keep a o h n, fun a h => by
    by_cases q : a = D
    · rw [q]; exact h0
    · rw [upd_ne q] at h; exact e.dom a h⟩
end
def tFz (t : TE) : TE := fun σ H Q => t σ H fun v H1 => Q v H1 ∨ ∃ a vs, v = .ref a ∧ H1 a = some (.lst vs) ∧ ∀ od, Q v (upd H1 a (.frz od (.lst vs)))
theorem pe_fz {t : TE} (p : PE X e t) : PE X e (tFz t) := ⟨fun pins s σ H Q I h => wpAny_mono (p.run pins s σ H _ I h) (fun u s' ⟨v, H', I', r, q⟩ => by
    rcases q with q | ⟨a, vs, rfl, ha, q⟩
    · exact ⟨v, H', I', r, q⟩
    · obtain ⟨od, I2⟩ := I'.lock ha trivial
      exact ⟨_, _, I2, r, q od⟩) fun _ _ z => z⟩
theorem SE.fz (ha : SE X T W a a') : SE X T W a (.fz a') := by
  obtain ⟨t, p, s⟩ := ha
  refine ⟨_, pe_fz p, fun ρ σ env H S Q he hs h => ?_⟩
  refine s ρ σ env H S _ he hs ((OutE.bndE0 h).imp fun v H1 ⟨x, S1, ρ1, po, h1⟩ => ?_)
  cases x with
  | v x => cases x with
    | ref l => exact False.elim h1
    | _ => exact .inl (h1 ρ1 H1 po.ext po.sto v po.rel (fun _ _ e _ => nomatch e))
  | t o => cases o with
    | lst xs =>
      obtain ⟨a, rfl, n, vs, e1, r1⟩ := po.rel
      refine .inr ⟨a, vs, rfl, e1, fun od => ?_⟩
      exact h1 ρ1 _ (Ext.lk (po.new _ _ rfl rfl) po.ext) (RS.lk e1 n po.sto) _ (.fls (.inl ⟨od, upd_same⟩) (r1.lk e1)) fun _ _ e _ => nomatch e
    | dic _ => exact False.elim h1
    | ins _ _ => exact False.elim h1
theorem OutE.dic0 {K : PySem.W.Frag} {ρ : List Addr} {H : Hp} {S : Sto} {Q : V → Hp → Prop} {p : Addr} {W : XK} (R : RS K ρ H S) (h : OutE K ρ H W Q (.ok (.t (.dic [])) S)) (hp : H p = none) : Q (.ref p) (upd H p (.dK [])) :=
  h ρ _ (Ext.new hp) (R.new hp) (.ref p) ⟨p, rfl, R.notin_none hp, [], upd_same, .nil⟩ fun _ _ _ e => by cases e; exact hp
theorem SE.dic0 : SE X T W (.Dict [] [] pos) .dic0 := ⟨_, pe_dnewK, fun ρ σ env H S Q he hs h p hp => h.dic0 hs hp⟩

/-! ### operators -/
theorem SE.bin {o : Bop} (ha : SE X T W a a') (hb : SE X T W b b') : SE X T W (.BinOp a (opPy o) b pos) (.bin o a' b') := by
  obtain ⟨t, p, s⟩ := ha
  obtain ⟨t2, p2, s2⟩ := hb
  refine ⟨_, pe_op (op_bin o) p p2, fun ρ σ env H S Q he hs h => ?_⟩
  refine s ρ σ env H S _ he hs ((OutE.bndE h).imp fun v H1 ⟨x, S1, ρ1, po, h1⟩ => ?_)
  refine s2 ρ1 σ env H1 S1 _ (he.ext hs po.ext) po.sto ((OutE.bndE h1).imp fun w H2 ⟨y, S2, ρ2, po2, h2⟩ => ?_)
  obtain ⟨r, hr, h3⟩ := h2.ofS
  exact bin_snd po2.sto (po.rel.ext po.sto po2.ext) po2.rel hr h3
theorem RVs.rep {K : PySem.W.Frag} {ρ : List Addr} {H : Hp} {vs : List V} {xs : List Val} (h : RVs K ρ H vs xs) : ∀ k : Nat, RVs K ρ H (List.replicate k vs).flatten (List.replicate k xs).flatten
  | 0 => .nil
  | k + 1 => by
    rw [List.replicate_succ, List.replicate_succ, List.flatten_cons, List.flatten_cons]
    exact h.append (RVs.rep h k)
theorem SE.rep (ha : SE X T W a a') (hb : SE X T W b b') : SE X T W (.BinOp a .Mult b pos) (.rep a' b') := by
  obtain ⟨t, p, s⟩ := ha
  obtain ⟨t2, p2, s2⟩ := hb
  refine ⟨_, pe_op op_rep p p2, fun ρ σ env H S Q he hs h => ?_⟩
  refine s ρ σ env H S _ he hs ((OutE.bndE h).imp fun v H1 ⟨x, S1, ρ1, po, h1⟩ => ?_)
  refine s2 ρ1 σ env H1 S1 _ (he.ext hs po.ext) po.sto ((OutE.bndE h1).imp fun w H2 ⟨y, S2, ρ2, po2, h2⟩ => ?_)
  obtain ⟨r, hr, h3⟩ := h2.ofS
  unfold repR at hr
  split at hr
  · rename_i k
    split at hr
    · rename_i xs hx
      split at hr
      · rename_i hz
        cases hr
        obtain ⟨q, vs, rfl, e1, r1⟩ := RR.lstW po2.sto (po.rel.ext po.sto po2.ext) hx
        rw [po2.rel.int]
        exact ⟨q, k, vs, rfl, rfl, e1, hz.1, hz.2.1, by rw [r1.length]; exact hz.2.2, fun p hp => h3.lst po2.sto (r1.rep k.toNat) hp⟩
      · cases hr
    · cases hr
  · cases hr
theorem SE.neg (ha : SE X T W a a') : SE X T W (.UnaryOp .USub a pos) (.neg a') := by
  obtain ⟨t, p, s⟩ := ha
  refine ⟨_, pe_un un_neg p, fun ρ σ env H S Q he hs h => ?_⟩
  refine s ρ σ env H S _ he hs ((OutE.bndE h).imp fun v H1 ⟨x, S1, ρ1, po, h1⟩ => ?_)
  split at h1
  · exact ⟨_, po.rel.int, h1.val po.sto (.int _)⟩
  · exact h1.elim
theorem OutE.bl {K : PySem.W.Frag} {ρ : List Addr} {H : Hp} {S : Sto} {W : Value → Option Addr → Hp → Prop} {Q : V → Hp → Prop} {o : Option Bool} (R : RS K ρ H S) (h : OutE K ρ H W Q ((Res.of o S).bind fun k S => .ok (.v (.bl k)) S)) : ∃ k, o = some k ∧ Q (.bl k) H := by
  cases o with
  | none => exact h.elim
  | some k => exact ⟨k, rfl, OutE.val R h (.bl k)⟩
theorem SE.cmp {o : Cop} (g : Gd X G T W) (ha : SE X T W a a') (hb : SE X T W b b') (hm : notSet b = true) : SE X T W (.Compare a [cmpPy o] [b] pos) (.cmp o a' b') := by
  obtain ⟨t, p, s⟩ := ha
  obtain ⟨t2, p2, s2⟩ := hb
  refine ⟨_, pe_cmpR (op_cmp g.un o) p p2 (marks_not hm), fun ρ σ env H S Q he hs h => ?_⟩
  refine s ρ σ env H S _ he hs ((OutE.bndE h).imp fun v H1 ⟨x, S1, ρ1, po, h1⟩ => ?_)
  refine s2 ρ1 σ env H1 S1 _ (he.ext hs po.ext) po.sto ((OutE.bndE h1).imp fun w H2 ⟨y, S2, ρ2, po2, h2⟩ => ?_)
  obtain ⟨k, hk, h3⟩ := h2.bl po2.sto
  exact cmp_snd po2.sto (po.rel.ext po.sto po2.ext) po2.rel hk h3
/-- a comparison as a test -/
theorem ST.cmp {o : Cop} (g : Gd X G T W) (ha : SE X T W a a') (hb : SE X T W b b') (hm : notSet b = true) : ST X T W (.Compare a [cmpPy o] [b] pos) (.cmp o a' b') := by
  obtain ⟨t, p, s⟩ := ha
  obtain ⟨t2, p2, s2⟩ := hb
  refine ⟨_, pt_cmpR (op_cmp g.un o) p p2 (marks_not hm), fun ρ σ env H S Q he hs h => ?_⟩
  have h0 : OutE X.K ρ H (wAt W σ) (fun v H1 => ∃ k, v = .bl k ∧ Q k H1) (evE T (.cmp o a' b') env S) := by
    have h' : OutT X.K ρ H (wAt W σ) Q ((evE T (.cmp o a' b') env S).bind fun x S => .of (truR S x) S) := h
    have hb : ∀ r S1, evE T (.cmp o a' b') env S = .ok r S1 → ∃ k, r = .v (.bl k) := fun r S1 e => by
      simp only [evE, ev2, dup] at e
      cases q : (ev2 T a').1 env S with
      | ok x S2 =>
        rw [q, Res.bind_ok] at e
        cases q2 : (ev2 T b').1 env S2 with
        | ok y S3 =>
          rw [q2, Res.bind_ok] at e
          cases q3 : cmpR S3 o x y with
          | none => rw [q3] at e; cases e
          | some k => rw [q3] at e; cases e; exact ⟨k, rfl⟩
        | exc _ _ => rw [q2, Res.bind_exc] at e; cases e
        | bad => rw [q2, Res.bind_bad] at e; cases e
      | exc _ _ => rw [q, Res.bind_exc] at e; cases e
      | bad => rw [q, Res.bind_bad] at e; cases e
    revert h' hb
    generalize evE T (.cmp o a' b') env S = r
    intro h' hb
    cases r with
    | ok r S1 =>
      obtain ⟨k, rfl⟩ := hb r S1 rfl
      intro ρ1 H1 e1 R1 v hv _
      exact ⟨k, hv.bl, h' ρ1 H1 e1 R1⟩
    | exc x S1 => exact h'
    | bad => exact h'
  refine s ρ σ env H S _ he hs ((OutE.bndE h0).imp fun v H1 ⟨x, S1, ρ1, po, h1⟩ => ?_)
  refine s2 ρ1 σ env H1 S1 _ (he.ext hs po.ext) po.sto ((OutE.bndE h1).imp fun w H2 ⟨y, S2, ρ2, po2, h2⟩ => ?_)
  obtain ⟨k, hk, h3⟩ := h2.bl po2.sto
  exact cmp_snd po2.sto (po.rel.ext po.sto po2.ext) po2.rel hk h3
/-- by its truth -/
theorem ST.val (ha : SE X T W a a') (hp : plainT a = true) (ht : evT T a' = tst (evE T a')) : ST X T W a a' := by
  obtain ⟨t, p, s⟩ := ha
  refine ⟨_, pt_truth p (plain_true hp), fun ρ σ env H S Q he hs h => ?_⟩
  rw [ht] at h
  refine s ρ σ env H S _ he hs ((OutE.bnd h).imp fun v H1 ⟨x, S1, ρ1, po, h1⟩ => ?_)
  obtain ⟨k, hk, h2⟩ := OutG.ofS h1
  exact ⟨k, tru_snd po.sto po.rel hk, h2 ρ1 H1 Ext.refl po.sto⟩
end
end Fe

/-! Fe6: and, or, not, calls, items, methods -/
namespace Fe
open PySem L2
def SPW (X : Cx) (T : Fns) (W : WX) (e : Expr) (e' : E) : Prop := ∃ t, PW X e t ∧ ∀ ρ σ env H S Q, RE X.K ρ H σ env → RS X.K ρ H S → OutT X.K ρ H (wAt W σ) Q (evT T e' env S) → t σ H Q
section
variable {X : Cx} {T : Fns} {W : WX} {G : Glb} {pos : Pos} {e a b c : Expr} {a' b' c' : E} {es rest : List Expr} {es' : Es}
theorem SPW.st (h : SPW X T W e a') : ST X T W e a' := let ⟨t, p, s⟩ := h; ⟨t, p.pt, s⟩
/-! ### and, or, not -/
theorem SE.one {op : PySem.BoolOp} (h : SE X T W a a') : SE X T W (.BoolOp op [a] pos) a' := let ⟨t, p, s⟩ := h; ⟨t, pe_one p, s⟩
theorem SPW.one (op : PySem.BoolOp) (h : ST X T W a a') : SPW X T W (.BoolOp op [a] pos) a' := by
  obtain ⟨t, p, s⟩ := h
  cases op with
  | And => exact ⟨t, pw_and1 p, s⟩
  | Or => exact ⟨t, pw_or1 p, s⟩
theorem SE.and (ha : SE X T W a a') (hb : SE X T W (.BoolOp .And (b :: rest) pos) b') : SE X T W (.BoolOp .And (a :: b :: rest) pos) (.and a' b') := by
  obtain ⟨t, p, s⟩ := ha
  obtain ⟨t2, p2, s2⟩ := hb
  refine ⟨_, pe_andT p p2, fun ρ σ env H S Q he hs h => ?_⟩
  refine s ρ σ env H S _ he hs ((OutE.bndE0 h).imp fun v H1 ⟨x, S1, ρ1, po, h1⟩ => ?_)
  cases q : truR S1 x with
  | none => rw [q] at h1; exact h1.elim
  | some k =>
    rw [q] at h1
    refine ⟨k, tru_snd po.sto po.rel q, ?_⟩
    cases k with
    | true => exact s2 ρ1 σ env H1 S1 Q (he.ext hs po.ext) po.sto (OutE.mono po.ext h1)
    | false => exact OutE.post po h1
theorem SE.or (ha : SE X T W a a') (hb : SE X T W (.BoolOp .Or (b :: rest) pos) b') : SE X T W (.BoolOp .Or (a :: b :: rest) pos) (.or a' b') := by
  obtain ⟨t, p, s⟩ := ha
  obtain ⟨t2, p2, s2⟩ := hb
  refine ⟨_, pe_orT p p2, fun ρ σ env H S Q he hs h => ?_⟩
  refine s ρ σ env H S _ he hs ((OutE.bndE0 h).imp fun v H1 ⟨x, S1, ρ1, po, h1⟩ => ?_)
  cases q : truR S1 x with
  | none => rw [q] at h1; exact h1.elim
  | some k =>
    rw [q] at h1
    refine ⟨k, tru_snd po.sto po.rel q, ?_⟩
    cases k with
    | true => exact OutE.post po h1
    | false => exact s2 ρ1 σ env H1 S1 Q (he.ext hs po.ext) po.sto (OutE.mono po.ext h1)
theorem SE.not (ha : SE X T W a a') : SE X T W (.UnaryOp .Not a pos) (.not a') := by
  obtain ⟨t, p, s⟩ := ha
  refine ⟨_, pe_notT p, fun ρ σ env H S Q he hs h => ?_⟩
  refine s ρ σ env H S _ he hs ((OutE.bndE h).imp fun v H1 ⟨x, S1, ρ1, po, h1⟩ => ?_)
  cases q : truR S1 x with
  | none => rw [q] at h1; exact h1.elim
  | some k =>
    rw [q] at h1
    exact ⟨k, tru_snd po.sto po.rel q, OutE.val po.sto h1 (.bl _)⟩
theorem ST.not (ha : ST X T W a a') : ST X T W (.UnaryOp .Not a pos) (.not a') := by
  obtain ⟨t, p, s⟩ := ha
  refine ⟨_, pt_not p, fun ρ σ env H S Q he hs h => ?_⟩
  exact s ρ σ env H S _ he hs (OutG.imp (OutG.bnd h) fun k ρ1 H1 S1 _ e1 R1 q => q ρ1 H1 Ext.refl R1)
theorem SPW.and (ha : ST X T W a a') (hb : SPW X T W (.BoolOp .And (b :: rest) pos) b') : SPW X T W (.BoolOp .And (a :: b :: rest) pos) (.and a' b') := by
  obtain ⟨t, p, s⟩ := ha
  obtain ⟨t2, p2, s2⟩ := hb
  refine ⟨_, pw_and p p2, fun ρ σ env H S Q he hs h => ?_⟩
  refine s ρ σ env H S _ he hs (OutG.imp (OutG.bnd h) fun k ρ1 H1 S1 _ e1 R1 q => ?_)
  cases k with
  | true => exact s2 ρ1 σ env H1 S1 Q (he.ext hs e1) R1 q
  | false => exact q ρ1 H1 Ext.refl R1
theorem SPW.or (ha : ST X T W a a') (hb : SPW X T W (.BoolOp .Or (b :: rest) pos) b') : SPW X T W (.BoolOp .Or (a :: b :: rest) pos) (.or a' b') := by
  obtain ⟨t, p, s⟩ := ha
  obtain ⟨t2, p2, s2⟩ := hb
  refine ⟨_, pw_or p p2, fun ρ σ env H S Q he hs h => ?_⟩
  refine s ρ σ env H S _ he hs (OutG.imp (OutG.bnd h) fun k ρ1 H1 S1 _ e1 R1 q => ?_)
  cases k with
  | true => exact q ρ1 H1 Ext.refl R1
  | false => exact s2 ρ1 σ env H1 S1 Q (he.ext hs e1) R1 q
theorem SE.ite (hc : ST X T W c c') (ha : SE X T W a a') (hb : SE X T W b b') : SE X T W (.IfExp c a b pos) (.ite c' a' b') := by
  obtain ⟨t0, p0, s0⟩ := hc
  obtain ⟨t, p, s⟩ := ha
  obtain ⟨t2, p2, s2⟩ := hb
  refine ⟨_, pe_ifExp p0 p p2, fun ρ σ env H S Q he hs h => ?_⟩
  refine s0 ρ σ env H S _ he hs (OutG.imp (OutG.toE h) fun k ρ1 H1 S1 _ e1 R1 q => ?_)
  cases k with
  | true => exact s ρ1 σ env H1 S1 Q (he.ext hs e1) R1 q
  | false => exact s2 ρ1 σ env H1 S1 Q (he.ext hs e1) R1 q

/-! ### items, slices, isinstance -/
theorem SE.ix (ha : SE X T W a a') (hb : SE X T W b b') (hn : notSlice b = true) : SE X T W (.Subscript a b pos) (.ix a' b') := by
  obtain ⟨t, p, s⟩ := ha
  obtain ⟨t2, p2, s2⟩ := hb
  refine ⟨_, pe_ix (ix_seq.or ix_dic) p p2 (plain_ix hn), fun ρ σ env H S Q he hs h => ?_⟩
  refine s ρ σ env H S _ he hs ((OutE.bndE h).imp fun v H1 ⟨x, S1, ρ1, po, h1⟩ => ?_)
  refine s2 ρ1 σ env H1 S1 _ (he.ext hs po.ext) po.sto ((OutE.bndE h1).imp fun w H2 ⟨y, S2, ρ2, po2, h2⟩ => ?_)
  split at h2
  · rename_i i
    rw [po2.rel.int]
    cases q : ixR S2 x i with
    | none => rw [q] at h2; exact h2.elim
    | some z =>
      rw [q] at h2
      exact ix_snd po2.sto (po.rel.ext po.sto po2.ext) q fun u hu => OutE.val po2.sto h2 hu
  · rename_i k
    rw [po2.rel.str]
    cases q : dicW S2 x with
    | none => rw [q] at h2; exact h2.elim
    | some kvs =>
      rw [q] at h2
      simp only [Option.bind_some] at h2
      cases q2 : dval (.str k) kvs with
      | none => rw [q2] at h2; exact h2.elim
      | some z =>
        rw [q2] at h2
        exact .inr (dic_snd (y := .str k) (k := .inr k) po2.sto (po.rel.ext po.sto po2.ext) rfl q q2 fun u hu => OutE.val po2.sto h2 hu)
  · exact h2.elim
theorem SO.none : SO X T W none .none := ⟨_, po_none, fun ρ σ env H S Q he hs h => h ρ H Ext.refl hs⟩
theorem SO.some (ha : SE X T W a a') : SO X T W (some a) (.some a') := by
  obtain ⟨t, p, s⟩ := ha
  refine ⟨_, po_some p, fun ρ σ env H S Q he hs h => ?_⟩
  refine s ρ σ env H S _ he hs ((OutE.bnd h).imp fun v H1 ⟨x, S1, ρ1, po, h1⟩ => ?_)
  split at h1
  · exact ⟨_, po.rel.int, h1 ρ1 H1 Ext.refl po.sto⟩
  · exact h1.elim
theorem SE.sl {lo hi : Option Expr} {lo' hi' : Eo} {p2 : Pos} (ha : SE X T W a a') (hl : SO X T W lo lo') (hh : SO X T W hi hi') : SE X T W (.Subscript a (.Slice lo hi none p2) pos) (.sl a' lo' hi') := by
  obtain ⟨t, p, s⟩ := ha
  obtain ⟨t1, q1, s1⟩ := hl
  obtain ⟨t2, q2, s2⟩ := hh
  refine ⟨_, pe_slice sl_any p q1 q2, fun ρ σ env H S Q he hs h => ?_⟩
  refine s ρ σ env H S _ he hs ((OutE.bndE h).imp fun v H1 ⟨x, S1, ρ1, po, h1⟩ => ?_)
  refine s1 ρ1 σ env H1 S1 _ (he.ext hs po.ext) po.sto (OutG.imp (OutG.toE h1) fun l ρ2 H2 S2 _ e2 R2 h2 => ?_)
  refine s2 ρ2 σ env H2 S2 _ ((he.ext hs po.ext).ext po.sto e2) R2 (OutG.imp (OutG.toE h2) fun u ρ3 H3 S3 _ e3 R3 h3 => ?_)
  obtain ⟨r, hr, h4⟩ := h3.ofS
  exact sl_snd R3 ((po.rel.ext po.sto e2).ext R2 e3) hr h4
/-! ### join -/
theorem strs_rel {K : PySem.W.Frag} {ρ : List Addr} {H : Hp} : ∀ {xs : List Val} {ys : List Str} {vs : List V}, strsOf xs = some ys → RVs K ρ H vs xs → vs = ys.map V.str
  | [], ys, _, h, .nil => by cases h; rfl
  | x :: xs, ys, _, h, .cons r t => by
    cases x with
    | str s =>
      simp only [strsOf] at h
      cases q : strsOf xs with
      | none => rw [q] at h; cases h
      | some zs =>
        rw [q] at h
        cases h
        cases r
        rw [List.map_cons, strs_rel q t]
    | _ => cases h
theorem SE.join {m : Str} {j : Nat} {pc apos : Pos} (ha : SE X T W a a') (hn : notStar a = true) (hl : (apos.endLine == pos.line) = true) : SE X T W (.Call (.Attribute (.Constant (.str m) j pc) "join" apos) [a] [] pos) (.join m a') := by
  obtain ⟨t, p, s⟩ := ha
  refine ⟨_, pe_join pe_str p (star_cons _ hn) rfl hl, fun ρ σ env H S Q he hs h => ?_⟩
  refine ⟨⟨m, rfl⟩, s ρ σ env H S _ he hs ((OutE.bndE h).imp fun v H1 ⟨x, S1, ρ1, po, h1⟩ => ?_)⟩
  cases q : joinR S1 m x with
  | none => rw [q] at h1; exact h1.elim
  | some z =>
    rw [q] at h1
    unfold joinR at q
    cases q1 : seqOf S1 x with
    | none => rw [q1] at q; cases q
    | some xs =>
      rw [q1] at q
      simp only [Option.bind_some] at q
      cases q2 : strsOf xs with
      | none => rw [q2] at q; cases q
      | some ys =>
        rw [q2] at q
        simp only [Option.bind_some] at q
        split at q
        · rename_i hz
          cases q
          obtain ⟨ad, vs, rfl, h3, r3⟩ := RR.seqOf po.sto po.rel q1
          have := strs_rel q2 r3
          subst this
          refine ⟨m, ad, ys, rfl, rfl, h3, hz, ?_⟩
          rw [TL.join_eq]
          exact OutE.val po.sto h1 (.str _)
        · cases q
/-! ### max with a default -/
section
open PySem.Spec PyProof.Rows
theorem ints_read {h : Heap} : ∀ {is : List Int} {us : List Value}, Vals (is.map V.int) us → ∃ as, ReadsAll h us (is.map PyData.int) as
  | [], _, .nil => ⟨[], .nil⟩
  | i :: is, _, .cons r t => by
    obtain ⟨tk, rfl⟩ := r
    obtain ⟨as, ih⟩ := ints_read (is := is) t
    exact ⟨_, .cons (.int i tk) ih⟩
theorem ints_alike (is : List Int) : PySem.W.AlikeAll (is.map PyData.int) := by
  constructor
  · intro x hx y hy
    obtain ⟨i, _, rfl⟩ := List.mem_map.mp hx
    obtain ⟨j, _, rfl⟩ := List.mem_map.mp hy
    rfl
  · intro x hx
    obtain ⟨i, _, rfl⟩ := List.mem_map.mp hx
    intro e
    cases e
theorem ints_depth : ∀ is : List Int, PyData.depthAll (is.map PyData.int) = 0
  | [] => rfl
  | i :: is => by
    have := ints_depth is
    simp [PyData.depthAll, PyData.depth, this]
def maxOf (d : Int) : List Int → Int
  | [] => d
  | i :: js => js.foldl max i
def rMaxDf (K : PySem.W.Frag) : List V → List V → Hp → VK → Prop := fun xs zs H Q => ∃ (p : Addr) (is : List Int) (d : Int), xs = [.ref p] ∧ zs = [.int d] ∧ SqL K H p (is.map V.int) ∧ Q (.int (maxOf d is)) H
theorem cr_maxDf (hc : X.calm = true) (hu : X.A.units + 100 < cLine) : CallRK X (.builtin "max") ["default"] (rMaxDf X.K) := by
  intro pins s σ H xs zs us ws Q I r1 r2 h
  obtain ⟨p, is, d, rfl, rfl, hs, q⟩ := h
  cases r1 with
  | cons ra rn =>
    cases rn
    cases ra
    cases r2 with
    | cons rb rm =>
      cases rm
      obtain ⟨tk, rfl⟩ := rb
      obtain ⟨its, rv, pl, hz⟩ := I.list hs
      obtain ⟨as, rd⟩ := ints_read (h := s.heap) rv
      refine PySem.W.max_list_default (I.ok.hd hc) pl.isList (by simpa using rd) (ints_alike is) (by rw [ints_depth]; omega) (fun e h' k kp => ?_) (fun y ys i v h' k bs e hv hr kp => ?_)
      · have e0 : is = [] := by cases is with
          | nil => rfl
          | cons _ _ => cases e
        subst e0
        exact ⟨.int d, H, I.kept (t' := k) kp, ⟨tk, rfl⟩, q⟩
      · cases is with
        | nil => cases e
        | cons n ns =>
          cases e
          rw [PySem.W.maxD_ints] at hr
          cases hr
          exact ⟨.int _, H, I.kept (t' := k) kp, ⟨_, rfl⟩, q⟩
end
theorem ints_rel {K : PySem.W.Frag} {ρ : List Addr} {H : Hp} : ∀ {xs : List Val} {ys : List Int} {vs : List V}, intsOf xs = some ys → RVs K ρ H vs xs → vs = ys.map V.int
  | [], ys, _, h, .nil => by cases h; rfl
  | x :: xs, ys, _, h, .cons r t => by
    cases x with
    | int s =>
      simp only [intsOf] at h
      cases q : intsOf xs with
      | none => rw [q] at h; cases h
      | some zs =>
        rw [q] at h
        cases h
        cases r
        rw [List.map_cons, ints_rel q t]
    | _ => cases h
theorem SE.maxd {d : Int} {j : Nat} {p1 p2 kp : Pos} (g : Gd X G T W) (ha : SE X T W a a') (hn : notStar a = true) (hg : glB X.env.scope "max" = true) : SE X T W (.Call (.Name "max" p1) [a] [⟨some "default", .Constant (.int d) j p2, kp⟩] pos) (.maxd a' d) := by
  obtain ⟨t, p, s⟩ := ha
  have hst := star_cons (es := []) X.env hn
  refine ⟨_, pe_callBK (cr_maxDf g.calm g.un) (gl_of hg) (g.blt _ (by decide +kernel)) (by decide +kernel) (pa_cons p pa_nil (star_cons _ hn)) (pk_cons pe_int pk_nil) (by decide) (by decide) (by rw [hst]; rfl) (by rw [hst]; rfl), fun ρ σ env H S Q he hs h => ?_⟩
  refine s ρ σ env H S _ he hs ((OutE.bndE h).imp fun v H1 ⟨x, S1, ρ1, po, h1⟩ => ?_)
  cases q : maxdR S1 d x with
  | none => rw [q] at h1; exact h1.elim
  | some z =>
    rw [q] at h1
    unfold maxdR at q
    cases q1 : lstOf S1 x with
    | none => rw [q1] at q; cases q
    | some xs =>
      rw [q1] at q
      simp only [Option.bind_some] at q
      cases q2 : intsOf xs with
      | none => rw [q2] at q; cases q
      | some ys =>
        rw [q2] at q
        simp only [Option.map_some, Option.some.injEq] at q
        obtain ⟨ad, vs, rfl, h3, r3⟩ := RR.lstOf po.sto po.rel q1
        have := ints_rel q2 r3
        subst this
        refine ⟨ad, ys, d, rfl, rfl, h3, ?_⟩
        have e : z = .int (maxOf d ys) := by
          rw [← q]
          cases ys <;> rfl
        subst e
        exact OutE.val po.sto h1 (.int _)
/-! ### t[::-1] of a tuple -/
section
open PySem.Spec PyProof.Rows
variable {prog : Program} {w : World} {A : Around} {E : Value → Shared → Prop} {s : Shared}
theorem adjust_rev (n : Nat) : Builtin.Slice.sliceAdjust none none (-1) (n : Int) = ((n : Int) - 1, -1) := rfl
theorem places_rev (n : Nat) : Builtin.Slice.slicePlaces ((n : Int) - 1) (-1) (-1) = n := by
  unfold Builtin.Slice.slicePlaces
  rw [if_neg (by decide)]
  by_cases h : (n : Int) - 1 > -1
  · rw [if_pos h, show (-(-1) : Int) = 1 by decide, Int.ediv_one]
    omega
  · rw [if_neg h]
    omega
theorem applied_rev {sl : Addr} {vl vu vs : Value} {n : Nat} {Q : Int × Int × Nat → Shared → Prop} (hs : s.heap.IsSliceOf sl vl vu vs) (pl : IsPart vl none) (pu : IsPart vu none) (ps : IsPart vs (some (-1)))
    (h : Q ((n : Int) - 1, -1, n) s) : wpAny (model prog w) A (Builtin.Slice.sliceApplied (.ref sl) (pure (n : Int))) Q E s := by
  obtain ⟨os, hos, hcs, hds⟩ := id hs
  unfold Builtin.Slice.sliceApplied Builtin.Slice.sliceFields
  refine wpAny_bind (wpAny_bind (wpAny_field hos hds (x := vl) rfl (wpAny_bind (wpAny_field hos hds (x := vu) rfl (wpAny_bind (wpAny_field hos hds (x := vs) rfl (wpAny_pure ?_)))))))
  refine wpAny_bind (HT.slicePart_ ps ?_)
  show wpAny _ _ (if ((-1 : Int) == 0) = true then _ else _) _ _ s
  rw [if_neg (by decide)]
  refine wpAny_bind (HT.slicePart_ pl (wpAny_bind (HT.slicePart_ pu (wpAny_bind (wpAny_pure ?_)))))
  show wpAny _ _ (pure ((n : Int) - 1, (-1 : Int), Builtin.Slice.slicePlaces ((n : Int) - 1) (-1) (-1))) _ _ s
  rw [places_rev]
  exact wpAny_pure h
theorem pick_rev (xs : Array Value) : ((List.range xs.size).filterMap fun (m : Nat) => xs[((xs.size : Int) - 1 + (m : Int) * (-1)).toNat]?).toArray = xs.toList.reverse.toArray := by
  have e : ((List.range xs.size).filterMap fun (m : Nat) => xs[((xs.size : Int) - 1 + (m : Int) * (-1)).toNat]?) = ((List.range xs.size).map fun k => xs.size - 1 - k).filterMap (xs[·]?) := by
    rw [List.filterMap_map]
    have go : ∀ (l : List Nat), (∀ m ∈ l, m < xs.size) → l.filterMap (fun (m : Nat) => xs[((xs.size : Int) - 1 + (m : Int) * (-1)).toNat]?) = l.filterMap ((fun x => xs[x]?) ∘ fun k => xs.size - 1 - k) := by
      intro l
      induction l with
      | nil => intro _; rfl
      | cons m l ih =>
        intro h
        have hm := h m (by simp)
        have e1 : ((xs.size : Int) - 1 + (m : Int) * (-1)).toNat = xs.size - 1 - m := by omega
        simp only [List.filterMap_cons, e1, ih (fun z hz => h z (by simp [hz])), Function.comp]
    exact go _ fun m hm => List.mem_range.mp hm
  rw [e, PySem.W.krv_range, List.filterMap_reverse, PySem.W.krv_all]
theorem getItem_tuple_rev {t sl : Addr} {items : Array Value} {vl vu vs : Value} {Q : Value → Shared → Prop} (ht : IsTup s.heap t items) (hs : s.heap.IsSliceOf sl vl vu vs) (pl : IsPart vl none) (pu : IsPart vu none) (ps : IsPart vs (some (-1)))
    (h : Q (.ref s.heap.objs.size) { s with heap := s.heap.push { cls := .type "tuple", data := .seq items.toList.reverse.toArray } })
    (hsz : items.size ≤ sizeLine) : wpAny (model prog w) A (getItem (.ref t) (.ref sl)) Q E s := by
  have htake : sizeOk (.seq items.toList.reverse.toArray) := by
    show items.toList.reverse.toArray.size ≤ sizeLine
    rw [List.size_toArray, List.length_reverse, Array.length_toList]
    exact hsz
  obtain ⟨os, hos, hcs, hds⟩ := id hs
  have hTs : s.TypeIs (.ref sl) "slice" := ⟨os, hos, hcs⟩
  unfold getItem
  try with_reducible refine wpAny_holding ?_
  first | refine wpAny_bind (wpAny_pure ?_) | skip
  refine wpAny_bind (wpAny_sequenceKey ht.typeIs (by decide) ?_)
  refine wpAny_bind (wpAny_callSpecial?_slot (name := Str.ofString "__getitem__") ht.typeIs PyProof.Rows.slot_tuple_getitem (wpAny_call_entry PyProof.Rows.slot_tuple_getitem ht.typeIs entry_tuple_getitem ?_ (args_tuple_getitem _ _)))
  show wpAny _ _ (Builtin.Tuple.tupleItemsOf (.ref t) >>= _) _ _ s
  refine wpAny_bind (PyProof.Rows.tupleItemsOf_ ht (wpAny_bind (wpAny_typeOf hTs ?_)))
  rw [if_pos (by decide)]
  refine wpAny_bind (applied_rev (n := items.size) hs pl pu ps ?_)
  show wpAny _ _ (if (((items.size : Int) - 1) == 0 && (-1 : Int) == 1 && items.size == items.size) = true then _ else _) _ _ s
  rw [if_neg (by rw [show ((-1 : Int) == 1) = false by decide, Bool.and_false, Bool.false_and]; decide), pick_rev]
  first
    | exact wpAny_bind (m := Builtin.Tuple.tupleExact _) (wpAny_newObj_type (wpAny_pure ⟨_, rfl, wpAny_pure h⟩) htake)
    | exact wpAny_bind (m := Builtin.Tuple.tupleExact _) (wpAny_newObj_type (wpAny_bind (wpAny_pure (wpAny_pure ⟨_, rfl, wpAny_pure h⟩))) htake)
    | exact wpAny_bind (wpAny_bind (m := Builtin.Tuple.tupleExact _) (wpAny_newObj_type (wpAny_pure (wpAny_pure ⟨_, rfl, wpAny_pure h⟩)) htake))
    | exact wpAny_bind (wpAny_bind (m := Builtin.Tuple.tupleExact _) (wpAny_newObj_type (wpAny_pure ⟨_, rfl, wpAny_pure h⟩) htake))
end
def tRevT (K : PySem.W.Frag) (te : TE) : TE := fun σ H Q => te σ H fun x H1 => ∃ a xs, x = .ref a ∧ ((SqL K H1 a xs ∧ ∀ p, H1 p = none → Q (.ref p) (upd H1 p (.lst xs.reverse))) ∨ (SqT K H1 a xs ∧ ∀ p, H1 p = none → Q (.ref p) (upd H1 p (.tup xs.reverse))))
open PySem.Spec PyProof.Rows in
theorem pe_revT {e : Expr} {te : TE} {k : Nat} {p1 p2 p3 pos : Pos} (he : PE X e te) : PE X (.Subscript e (.Slice none none (some (.UnaryOp .USub (.Constant (.int 1) k p1) p2)) p3) pos) (tRevT X.K te) := by
  refine ⟨fun pins s σ H Q I h => ?_⟩
  refine PyProof.Rows.Subscript_ (thn (he.run pins s σ H _ I h) fun v s1 ⟨x, H1, I1, r1, q1⟩ => ?_)
  obtain ⟨a, xs, ex, q1⟩ := q1
  subst ex
  cases r1
  have hst : PO X (some (.UnaryOp .USub (.Constant (.int 1) k p1) p2)) (tPart (tUn (rU fun i => .int (-i)) (tC (.int 1)))) := po_some (pe_un un_neg pe_int)
  refine wpAny_Slice (thn (po_none.run pins s1 σ H1 (fun o H2 => o = none ∧ H2 = H1) I1 ⟨rfl, rfl⟩) fun vl s2 ⟨l, H2, I2, pl, el, e2⟩ => ?_)
  subst el e2
  refine thn (po_none.run pins s2 σ H2 (fun o H3 => o = none ∧ H3 = H2) I2 ⟨rfl, rfl⟩) fun vu s3 ⟨u, H3, I3, pu, eu, e3⟩ => ?_
  subst eu e3
  refine thn (hst.run pins s3 σ H3 (fun o H4 => o = some (-1) ∧ H4 = H3) I3 ⟨1, rfl, -1, rfl, rfl, rfl⟩) fun vs s4 ⟨o, H4, I4, ps, eo, e4⟩ => ?_
  subst eo e4
  have I5 : Inv X pins σ H4 { s4 with heap := s4.heap.push { cls := .type "slice", data := .fields #[vl, vu, vs] } } := I4.kept (t' := s4.toks) fun b ob q => Heap.get?_push_of_some _ q
  show wpAny (model X.prog X.w) X.A (subscriptTail e (.Slice none none (some (.UnaryOp .USub (.Constant (.int 1) k p1) p2)) p3) (.ref a) (.ref s4.heap.objs.size)) (EP X pins σ Q) X.xe { s4 with heap := s4.heap.push { cls := .type "slice", data := .fields #[vl, vu, vs] } }
  rcases q1 with ⟨hx, q⟩ | ⟨hx, q⟩
  · obtain ⟨its, r, ht, hz⟩ := I5.list hx
    have hlen := r.length
    refine tail_any (ops := [.ref a, .ref s4.heap.objs.size]) ht.isList.typeIs (PySem.slot_list_getitem.lookup) ?_ (by with_unfolding_all rfl)
    refine wpAny_getItem_list_slice ht.isList (Heap.IsSliceOf.new _ vl vu vs) pl pu ps (by decide) ?_ (by rw [List.size_toArray]; omega)
    rw [PySem.W.krv_pick]
    exact ⟨.ref _, _, I5.laid (t' := s4.toks) (o := .lst xs.reverse) (fun b ob q => Heap.get?_push_of_some _ q) (Nat.le_refl _) ⟨by rw [List.length_reverse]; exact hz, _, 0, r.reverse, Heap.get?_push_size _ rfl⟩, rfl, q _ (I5.hok.fresh (Nat.le_refl _))⟩
  · obtain ⟨its, r, ht, hz⟩ := I5.tuple hx
    have hlen := r.length
    refine tail_any (ops := [.ref a, .ref s4.heap.objs.size]) ht.typeIs (PyProof.Rows.slot_tuple_getitem.lookup) ?_ (by with_unfolding_all rfl)
    refine getItem_tuple_rev ht (Heap.IsSliceOf.new _ vl vu vs) pl pu ps ?_ (by rw [List.size_toArray]; omega)
    exact ⟨.ref _, _, I5.laid (t' := s4.toks) (o := .tup xs.reverse) (fun b ob q => Heap.get?_push_of_some _ q) (Nat.le_refl _) ⟨by rw [List.length_reverse]; exact hz, _, r.reverse, IsTup.new _ _⟩, rfl, q _ (I5.hok.fresh (Nat.le_refl _))⟩
theorem SE.rev {k : Nat} {p1 p2 p3 : Pos} (ha : SE X T W a a') : SE X T W (.Subscript a (.Slice none none (some (.UnaryOp .USub (.Constant (.int 1) k p1) p2)) p3) pos) (.rev a') := by
  obtain ⟨t, p, s⟩ := ha
  refine ⟨_, pe_revT p, fun ρ σ env H S Q he hs h => ?_⟩
  refine s ρ σ env H S _ he hs ((OutE.bndE h).imp fun v H1 ⟨x, S1, ρ1, po, h1⟩ => ?_)
  obtain ⟨r, hr, h2⟩ := h1.ofS
  unfold revR at hr
  split at hr
  · rename_i xs
    cases hr
    obtain ⟨a, vs, rfl, h3, r3⟩ := po.rel.seqT
    exact ⟨a, vs, rfl, .inr ⟨h3, fun p hp => h2.tup po.sto r3.reverse hp⟩⟩
  · cases q : lstOf S1 x with
    | none => rw [q] at hr; cases hr
    | some xs =>
      rw [q] at hr
      cases hr
      obtain ⟨a, vs, rfl, h3, r3⟩ := RR.lstOf po.sto po.rel q
      exact ⟨a, vs, rfl, .inl ⟨h3, fun p hp => h2.lst po.sto r3.reverse hp⟩⟩
theorem isi_boot (t : Ty) : bootBuiltins (Str.ofString t.name) = some (.type t.name) ∧ Str.ofString t.name ∈ bltNames ∧ Str.ofString t.name ≠ "__name__" ∧ (Str.ofString t.name == ("__debug__" : Str)) = false := by
  cases t <;> exact ⟨by decide +kernel, by decide +kernel, by decide +kernel, by decide +kernel⟩
theorem isi_kit (c : Cl) (t : Ty) : kitB c.name t.name = some (isiB c t) := by
  cases c <;> cases t <;> decide +kernel
theorem SE.isi {t : Ty} {p1 p2 : Pos} (g : Gd X G T W) (ha : SE X T W a a') (hn : notStar a = true) (hg : glB X.env.scope "isinstance" = true) (hg2 : glB X.env.scope (Str.ofString t.name) = true) :
    SE X T W (.Call (.Name "isinstance" p1) [a, .Name (Str.ofString t.name) p2] [] pos) (.isi a' t) := by
  obtain ⟨tt, p, s⟩ := ha
  obtain ⟨b1, b2, b3, b4⟩ := isi_boot t
  refine ⟨_, pe_callB call_isi (gl_of hg) (g.blt _ (by decide +kernel)) (by decide +kernel) (pa_cons p (pa_cons (pe_bltn (v := .ty t.name) (gl_of hg2) (g.blt _ b2) b1 rfl b3 b4) pa_nil) (star_cons _ hn)) (by decide) (by decide) (star_cons _ hn) rfl, fun ρ σ env H S Q he hs h => ?_⟩
  refine s ρ σ env H S _ he hs ((OutE.bndE h).imp fun v H1 ⟨x, S1, ρ1, po, h1⟩ => ?_)
  obtain ⟨k, hk, h2⟩ := h1.bl po.sto
  unfold isiR at hk
  cases q : clsOf S1 x with
  | none => rw [q] at hk; cases hk
  | some c =>
    rw [q] at hk
    cases hk
    exact ⟨v, .ty t.name, .type c.name, .type t.name, _, rfl, .ty t.name, cls_snd po.sto po.rel q, kit_ty (isi_kit c t), h2⟩
def tyPy : List Ty → List Expr → Bool
  | [], [] => true
  | t :: ts, .Name y _ :: es => y == Str.ofString t.name && tyPy ts es
  | _, _ => false
theorem pa_tys (g : Gd X G T W) : ∀ (ts : List Ty) (es : List Expr), tyPy ts es = true → (ts.all fun t => glB X.env.scope (Str.ofString t.name)) = true → PA X es (fun _ H Q => Q (ts.map fun t => V.ty t.name) H)
  | [], es, h, _ => by
    cases es with
    | nil => exact pa_nil
    | cons _ _ => cases h
  | t :: ts, es, h, hg => by
    cases es with
    | nil => cases h
    | cons e es =>
      cases e <;> simp only [tyPy] at h <;> first | (cases h; done) | skip
      simp only [Bool.and_eq_true] at h
      simp only [List.all_cons, Bool.and_eq_true] at hg
      obtain ⟨b1, b2, b3, b4⟩ := isi_boot t
      rw [eq_of_beq h.1]
      exact pa_cons (pe_bltn (v := .ty t.name) (gl_of hg.1) (g.blt _ b2) b1 rfl b3 b4) (pa_tys g ts es h.2 hg.2)
theorem kit_any {K : PySem.W.Frag} (c : Cl) : ∀ ts : List Ty, PySem.W.kitAny K (.type c.name) (ts.map fun t => Value.type t.name) = some (ts.any (isiB c))
  | [] => rfl
  | t :: ts => by
    have h := kit_ty (K := K) (isi_kit c t)
    simp only [List.map_cons, PySem.W.kitAny, h, List.any_cons]
    cases isiB c t with
    | true => rfl
    | false => simpa using kit_any c ts
theorem clsV_tys : ∀ ts : List Ty, Paired ClsV (ts.map fun t => V.ty t.name) (ts.map fun t => Value.type t.name)
  | [] => .nil
  | t :: ts => .cons (.ty t.name) (clsV_tys ts)
theorem SE.isiT {ts : List Ty} {k : Nat} {p1 p2 : Pos} (g : Gd X G T W) (ha : SE X T W a a') (hn : notStar a = true) (hg : glB X.env.scope "isinstance" = true) (ht : tyPy ts es = true) (hg2 : (ts.all fun t => glB X.env.scope (Str.ofString t.name)) = true) (hl : ts.length ≤ 1000) :
    SE X T W (.Call (.Name "isinstance" p1) [a, .Tuple es k p2] [] pos) (.isiT a' ts) := by
  obtain ⟨tt, p, s⟩ := ha
  refine ⟨_, pe_callB call_isiT (gl_of hg) (g.blt _ (by decide +kernel)) (by decide +kernel) (pa_cons p (pa_cons (pe_tup (pa_tys g ts es ht hg2)) pa_nil) (star_cons _ hn)) (by decide) (by decide) (star_cons _ hn) rfl, fun ρ σ env H S Q he hs h => ?_⟩
  refine s ρ σ env H S _ he hs ((OutE.bndE h).imp fun v H1 ⟨x, S1, ρ1, po, h1⟩ => ?_)
  refine ⟨by rw [List.length_map]; exact Nat.le_of_lt (small1000 hl), fun q hq => ?_⟩
  unfold isiTR at h1
  cases z : clsOf S1 x with
  | none => rw [z] at h1; exact h1.elim
  | some c =>
    rw [z] at h1
    have e1 : Ext ρ1 H1 ρ1 (upd H1 q (.tup (ts.map fun t => V.ty t.name))) := Ext.new hq
    have R1 := RS.new (o := .tup (ts.map fun t => V.ty t.name)) po.sto hq
    refine ⟨v, q, _, .type c.name, _, _, rfl, upd_same, clsV_tys ts, cls_snd R1 (po.rel.ext po.sto e1) z, kit_any c ts, ?_⟩
    exact h1 ρ1 _ e1 R1 _ (RV.bl _) fun _ _ e _ => nomatch e
theorem bfN (f : Bf) : bfName f ∈ bltNames ∧ bfName f ≠ "__name__" ∧ (bfName f == ("__debug__" : Str)) = false := by
  cases f <;> exact ⟨by decide +kernel, by decide +kernel, by decide +kernel⟩
theorem bfTy (f : Bf) : (∃ id, bfVal f = .builtin id) ∨ ∃ t, bfVal f = .type t := by
  cases f <;> first | exact .inl ⟨_, rfl⟩ | exact .inr ⟨_, rfl⟩
/-- a built-in, called by its name -/
theorem pe_blt {f : Bf} {r : List V → Hp → VK → Prop} {t : TA} {p1 : Pos} (g : Gd X G T W) (hc : CallR X (bfVal f) r) (hg : glB X.env.scope (bfName f) = true) (ha : PA X (e :: es) t) (hn : (e :: es).all notStar = true) :
    PE X (.Call (.Name (bfName f) p1) (e :: es) [] pos) (tCB r t) := by
  obtain ⟨b1, b2, b3⟩ := bfN f
  have hb := bf_boot f
  simp only [List.all_cons, Bool.and_eq_true] at hn
  rcases bfTy f with ⟨id, hv⟩ | ⟨id, hv⟩
  · rw [hv] at hc hb
    exact pe_callB hc (gl_of hg) (g.blt _ b1) hb ha b2 b3 (star_cons _ hn.1) (star_plain _ _ hn.2)
  · rw [hv] at hc hb
    exact pe_callTy hc (gl_of hg) (g.blt _ b1) hb ha b2 b3 (star_cons _ hn.1) (star_plain _ _ hn.2)
theorem SE.blt {f : Bf} {p1 : Pos} (g : Gd X G T W) (hr : SW X T W (e :: es) es') (hn : (e :: es).all notStar = true) (hg : glB X.env.scope (bfName f) = true) : SE X T W (.Call (.Name (bfName f) p1) (e :: es) [] pos) (.blt f es') := by
  obtain ⟨t, p, s⟩ := hr
  refine ⟨_, pe_blt g (cr_B g.calm g.un f) hg p hn, fun ρ σ env H S Q he hs h => ?_⟩
  refine s ρ σ env H S _ he hs (OutG.imp (OutG.toE h) fun rs ρ1 H1 S1 _ e1 R1 q vs hv => ?_)
  obtain ⟨r, hr, h2⟩ := q.ofS
  unfold bltR at hr
  split at hr
  · cases hv with
    | cons hv hnil =>
      cases hnil
      exact blt1_snd R1 hv hr h2
  · cases hv with
    | cons hv hv2 =>
      cases hv2 with
      | cons hv2 hnil =>
        cases hnil
        rw [hv.int, hv2.int]
        split at hr
        · cases hr
          exact .inl ⟨_, _, rfl, h2.val R1 (.int _)⟩
        · cases hr
          exact .inl ⟨_, _, rfl, h2.val R1 (.int _)⟩
        · cases hr
  · cases hr
end
end Fe

/-! Fe6e: enumerate of a tuple -/
namespace PySem
open Sem (wp)
set_option maxHeartbeats 1000000 in
theorem meets_enum_one {v : Value} {o : Obj} {H : Heap → Prop} (B : Begins v o H) :
    Meets (Builtin.«enumerate.__new__» ⟨[.type "enumerate", v], []⟩) (fun _ R s => H s.heap ∧
      R (.ok (.ret (.ref (s.heap.push o).objs.size))) { s with heap := (s.heap.push o).push { cls := .type "enumerate", data := .fields #[.none, .bool false, .ref s.heap.objs.size, rawInt 0, .none, .none] } }) :=
  .of_wp fun prog w A R s h => by
    obtain ⟨hp, g, d, tk, os⟩ := s; obtain ⟨h1, h⟩ := h
    have hsub := sub_enumerate
    have q1 : ∀ {A' : Around} {E : Value → Shared → Prop} {Q : Value → Shared → Prop}, Q (.ref hp.objs.size) ⟨hp.push o, g, d, tk, os⟩ → wpAny (model prog w) A' (pyIter v) Q E ⟨hp, g, d, tk, os⟩ :=
      fun q => B.iter prog w _ _ ⟨hp, g, d, tk, os⟩ _ h1 q
    wp_walk using q1
    refine wpAny_stack_any fun st => wpAny_pure ?_
    split
    · rename_i c _ _ _ _ _
      cases (c == Value.type "enumerate")
      · wp_walk using q1
        exact ⟨_, rfl, h⟩
      · wp_walk using q1
        exact ⟨_, rfl, h⟩
    · wp_walk using q1
      exact ⟨_, rfl, h⟩
theorem enum_one {prog : Program} {w : World} {A : Around} {E : Value → Shared → Prop} {s : Shared} {v : Value} {o : Obj} {H : Heap → Prop} {Q : Value → Shared → Prop} (B : Begins v o H) (h1 : H s.heap)
    (h : ∀ h', IsEnum h' (s.heap.objs.size + 1) s.heap.objs.size 0 .none → h'.get? s.heap.objs.size = some o → h'.objs.size = s.heap.objs.size + 2 →
      (∀ b o, s.heap.get? b = some o → h'.get? b = some o) → Q (.ref (s.heap.objs.size + 1)) { s with heap := h' }) :
    wpAny (model prog w) A (call (.type "enumerate") [v]) Q E s := by
  refine callType_new F.called_enumerate (by decide) (F.typeCall_enumerate_1 _) (F.newCall_enumerate_1 _) (fun obj => F.args_object_init_2 obj _) F.entry_enumerate_new
    (meets_enum_one B) ⟨h1, ?_⟩
  have hz : (s.heap.push o).objs.size = s.heap.objs.size + 1 := Heap.size_push ..
  show _ ∧ _
  rw [hz]
  have he : IsEnum ((s.heap.push o).push { cls := .type "enumerate", data := .fields #[.none, .bool false, .ref s.heap.objs.size, rawInt 0, .none, .none] }) (s.heap.objs.size + 1) s.heap.objs.size 0 .none := by
    have := Heap.get?_push_size (s.heap.push o) (o := { cls := .type "enumerate", data := .fields #[.none, .bool false, .ref s.heap.objs.size, rawInt 0, .none, .none] }) rfl
    rw [hz] at this; exact this
  refine ⟨⟨_, he, rfl⟩, h _ he (Heap.get?_push_of_some _ (Heap.get?_push_size _ B.free)) (by rw [Heap.size_push, hz]) fun b o x => Heap.get?_push_of_some _ (Heap.get?_push_of_some _ x)⟩
theorem enum_tup_end {prog : Program} {w : World} {A : Around} {E : Value → Shared → Prop} {s : Shared} {e it t : Addr} {k : Int} {i : Nat} {items : Array Value} {old : Value} {Q : Option Value → Shared → Prop} (hh : A.handled = none)
    (he : IsEnum s.heap e it k old) (hit : s.heap.IsTupleIter it t i) (hl : s.heap.IsTuple t items) (hx : items[i]? = none)
    (hQ : ∀ h', Heap.ExtBut it s.heap h' → Q none { s with heap := h' }) : wpAny (model prog w) A (pyNext (.ref e)) Q E s := by
  have hT : s.TypeIs (.ref e) "enumerate" := ⟨_, he, rfl⟩
  unfold pyNext
  refine wpAny_bind (wpAny_attempt (wpAny_callSpecial?_slot (name := Str.ofString "__next__") hT F.slot_enumerate_next
    (wpAny_call_entry F.slot_enumerate_next hT F.entry_enumerate_next ?_ (F.args_enumerate_next_1 _))))
  show wpAny _ _ (field (.ref e) 2 >>= _) _ _ _
  refine wpAny_bind (wpAny_field he rfl (x := .ref it) rfl ?_)
  refine wpAny_bind (wpAny_nextOf_tuple_end hh hit hl hx fun h' x he' hx' => ?_)
  obtain ⟨o, ho, hc⟩ := hx'
  refine wpAny_bind (wpAny_isInstance (T := "StopIteration") (b := true) ⟨o, ho, hc⟩ isSubtype_stop ?_)
  exact wpAny_pure (hQ _ he')
end PySem
namespace L2
open PySem
def IteT (K : PySem.W.Frag) (a : Addr) : It :=
  ⟨fun i H => ∃ (xs : List V) (x : V), SqT K H a xs ∧ xs[i]? = some x, fun i H v H' => ∃ T x, v = .ref T ∧ H T = none ∧ H' = upd H T (.tup [.int (i : Nat), x]) ∧ ∀ xs, SqT K H a xs → xs[i]? = some x, fun i H => ∃ xs : List V, SqT K H a xs ∧ xs.length ≤ i⟩
theorem turn_enumT {P : Program} {w : World} {K : PySem.W.Frag} {elts : List Expr} {kk : Nat} {tpos : Pos} (a e it : Addr) (hae : a ≠ e) (hai : a ≠ it) :
    Turn P w K (.Tuple elts kk tpos) (IteT K a) [e, it] e (fun i h => (∃ old, IsEnum h e it ((i : Nat) : Int) old) ∧ h.IsTupleIter it a i ∧ e ≠ it) where
  mem := by simp
  obj := fun i h st b hb => by
    obtain ⟨⟨old, he⟩, ⟨o, ho, hc, hd⟩, _⟩ := st
    have e' : b = e ∨ b = it := by simpa using hb
    rcases e' with z | z
    · rw [z]; exact ⟨_, he, fun v q => nomatch q⟩
    · rw [z]; exact ⟨o, ho, fun v q => by rw [hd] at q; cases q⟩
  keep := fun i h h' st k => let ⟨⟨old, he⟩, hi, hne⟩ := st; ⟨⟨old, k e (by simp) _ he⟩, hi.at fun o q => k it (by simp) o q, hne⟩
  item := by
    intro X hP hw hK hc i pins s σ H E I hf st hg
    subst hP hw hK
    obtain ⟨⟨old, he⟩, hit, hne⟩ := st
    obtain ⟨xs, x, hq, hx⟩ := hg
    obtain ⟨its, rv, p, hz⟩ := I.tuple hq
    obtain ⟨u, hu, ru⟩ := rv.get hx
    have hel : e < s.heap.objs.size := Heap.lt_size he
    have hil : it < s.heap.objs.size := by obtain ⟨_, q, _⟩ := hit; exact Heap.lt_size q
    have hlt : i < its.toArray.size := by simpa using (List.getElem?_eq_some_iff.mp hu).1
    refine wpAny_pyNext_enum_itemD (Draws.tuple (A := X.A.in1) (I.ok.hd hc) it a hai its.toArray) he ⟨hit, p⟩ hlt hne (by simp [hne, Ne.symm hae]) fun x' h' tk hx' ho hst hT hsz hk => ?_
    have hxu : x' = u := by
      have h1 : its.toArray[i]? = some x' := hx'
      have h2 : its.toArray[i]? = some u := by simpa using hu
      rw [h1] at h2
      exact Option.some.inj h2
    subst hxu
    refine ⟨_, rfl, wpAny_letOwnedTupleGo_enum (s := { s with heap := h', toks := tk + 1 }) ho fun h'' he' sb => ?_⟩
    have hT2 : h''.get? s.heap.objs.size = some { cls := .type "tuple", data := .seq #[.int i tk, x'] } := (sb.2 _ (Nat.ne_of_gt hel)).trans hT
    have new : ObjOk X.prog X.w (upd H s.heap.objs.size (.tup [.int (i : Nat), x])) h'' s.heap.objs.size (.tup [.int (i : Nat), x]) :=
      ⟨by show 2 ≤ sizeLine; decide, [.int i tk, x'], .cons ⟨_, rfl⟩ (.cons ru .nil), ⟨_, hT2, rfl, _, rfl⟩⟩
    have I1 : Inv X pins σ (upd H s.heap.objs.size (.tup [.int (i : Nat), x])) { s with heap := h'', toks := tk + 1 } :=
      I.turnedNew (ch := [e, it]) (fun b ob hb q => (sb.2 b (fun z => hb (by simp [z]))).trans (hk b ob (fun z => hb (by simp [z])) (fun z => hb (by simp [z])) q)) hf (Nat.le_refl _) new
    refine ⟨.ref s.heap.objs.size, _, I1, rfl, ⟨_, x, rfl, I.hok.fresh (Nat.le_refl _), rfl, fun ys hy => by rw [I.tuple_inj hy hq]; exact hx⟩, ⟨⟨x', ?_⟩, hst.1.at fun o q => (sb.2 it (Ne.symm hne)).trans q, hne⟩, fun b hb => ?_⟩
    · have e1 : ((i + 1 : Nat) : Int) = (i : Int) + 1 := by omega
      rw [e1]; exact he'
    · have hb' : b < s.heap.objs.size := by
        have e' : b = e ∨ b = it := by simpa using hb
        rcases e' with z | z
        · rw [z]; exact hel
        · rw [z]; exact hil
      rw [upd_ne (Nat.ne_of_lt hb')]
      exact (hf b hb).1
  done := by
    intro X hP hw hK hc i pins s σ H E I hf st hg
    subst hP hw hK
    obtain ⟨⟨old, he⟩, hit, hne⟩ := st
    obtain ⟨xs, hq, hx⟩ := hg
    obtain ⟨its, rv, p, hz⟩ := I.tuple hq
    obtain ⟨f0, f1, f2, f3, f4, f5⟩ := hf it (by simp)
    have hl := rv.length
    exact enum_tup_end (I.ok.hd hc) he hit p (by simp; omega) fun h' eb => ⟨rfl, I.turned (t' := s.toks) (fun b o hb q => eb b o hb q) f0 f1 f3 f4 f5⟩
  self := fun A i s Q E st h => let ⟨⟨_, he⟩, _⟩ := st; wpAny_pyIter_enum he h
def iEnumB (K : PySem.W.Frag) (ta : TA) : TI := fun σ H R => ta σ H fun vs H1 => (∃ a xs, vs = [.ref a] ∧ SqL K H1 a xs ∧ R (Ite K a) H1) ∨ ∃ a xs, vs = [.ref a] ∧ SqT K H1 a xs ∧ R (IteT K a) H1
theorem pi_enumB {X : Cx} {e : Expr} {ta : TA} {p pos tpos : Pos} {elts : List Expr} {kk : Nat} (hg : Gl X "enumerate") (hm : X.mg "enumerate" = none) (ha : PA X [e] ta) (hs : starEach [e] X.env = [(false, eval e X.env)] := by rfl) :
    PI X (.Tuple elts kk tpos) (.Call (.Name "enumerate" p) [e] [] pos) (iEnumB X.K ta) := by
  refine ⟨fun pins s σ H R I h => ?_⟩
  refine PyProof.Rows.Call_ (ld_blt I hg hm PyProof.Rows.boot_enumerate (PyProof.Rows.callWith_type1 (thn (ha.run pos pins s σ H _ I h) fun us s1 ⟨vs, H1, I1, r1, q1⟩ => ?_) hs rfl))
  rcases q1 with ⟨a, xs, ex, hq, q⟩ | ⟨a, xs, ex, hq, q⟩
  · subst ex
    cases r1 with
    | cons r rr =>
      cases rr
      cases r
      obtain ⟨its, rv, p', hz⟩ := I1.list hq
      refine call_enumerate_list p'.isList fun h' he hit hsz hk => wpAny_pyIter_enum he ?_
      have I2 : Inv X pins σ H1 { s1 with heap := h' } := I1.kept (t' := s1.toks) hk
      refine ⟨s1.heap.objs.size + 1, [s1.heap.objs.size + 1, s1.heap.objs.size], _, _, H1, rfl, I2, turn_enum a (s1.heap.objs.size + 1) s1.heap.objs.size, ⟨⟨.none, he⟩, hit, Nat.succ_ne_self _⟩, fun b hb => ?_, q⟩
      have e' : b = s1.heap.objs.size + 1 ∨ b = s1.heap.objs.size := by simpa using hb
      have hle : s1.heap.objs.size ≤ b := by
        rcases e' with z | z
        · rw [z]; exact Nat.le_add_right _ _
        · rw [z]; exact Nat.le_refl _
      exact I1.fpOk hle (I1.hok.fresh hle)
  · subst ex
    cases r1 with
    | cons r rr =>
      cases rr
      cases r
      obtain ⟨its, rv, p', hz⟩ := I1.tuple hq
      have hal : a < s1.heap.objs.size := by obtain ⟨o, ho, _⟩ := p'; exact Heap.lt_size ho
      refine enum_one (begins_tuple a its.toArray) p' fun h' he hit hsz hk => wpAny_pyIter_enum he ?_
      have I2 : Inv X pins σ H1 { s1 with heap := h' } := I1.kept (t' := s1.toks) hk
      refine ⟨s1.heap.objs.size + 1, [s1.heap.objs.size + 1, s1.heap.objs.size], _, _, H1, rfl, I2, turn_enumT a (s1.heap.objs.size + 1) s1.heap.objs.size (Nat.ne_of_lt (Nat.lt_succ_of_lt hal)) (Nat.ne_of_lt hal), ⟨⟨.none, he⟩, ⟨_, hit, rfl, rfl⟩, Nat.succ_ne_self _⟩, fun b hb => ?_, q⟩
      have e' : b = s1.heap.objs.size + 1 ∨ b = s1.heap.objs.size := by simpa using hb
      have hle : s1.heap.objs.size ≤ b := by
        rcases e' with z | z
        · rw [z]; exact Nat.le_add_right _ _
        · rw [z]; exact Nat.le_refl _
      exact I1.fpOk hle (I1.hok.fresh hle)
end L2

/-! Fe7: calls, methods, what is walked, comprehensions -/
namespace Fe
open PySem L2
/-! ### what a call leaves behind -/
section
variable {K : PySem.W.Frag} {ρ ρ' ρ2 : List Addr} {H H' H2 : Hp} {S S' S2 : Sto} {W : Value → Option Addr → Hp → Prop} {Q : V → Hp → Prop} {n : Nat} {r : List Addr}
mutual
theorem RV.narrow (hl : ρ.length = n) : ∀ {v : V} {x : Val}, RV K (ρ ++ r) H v x → x.bel n = true → RV K ρ H v x
  | _, _, .non, _ => .non
  | _, _, .bl b, _ => .bl b
  | _, _, .int b, _ => .int b
  | _, _, .str b, _ => .str b
  | _, _, .tup h t, e => .tup h (RVs.narrow hl t e)
  | _, _, .fls h t, e => .fls h (RVs.narrow hl t e)
  | _, _, .ref h, e => .ref (by
    simp only [Val.bel, decide_eq_true_eq] at e
    rw [List.getElem?_append_left (by omega)] at h
    exact h)
theorem RVs.narrow (hl : ρ.length = n) : ∀ {v : List V} {x : List Val}, RVs K (ρ ++ r) H v x → Val.belL n x = true → RVs K ρ H v x
  | _, _, .nil, _ => .nil
  | _, _, .cons h t, e => by
    simp only [Val.belL, Bool.and_eq_true] at e
    exact .cons (RV.narrow hl h e.1) (RVs.narrow hl t e.2)
end
theorem RKV.narrow (hl : ρ.length = n) {ks : List (Key × V)} {kvs : List (Val × Val)} (h : RKV K (ρ ++ r) H ks kvs) : belKV n kvs = true → RKV K ρ H ks kvs := by
  induction h with
  | nil => exact fun _ => .nil
  | cons h1 h2 _ ih =>
    intro e
    simp only [belKV, Bool.and_eq_true] at e
    exact .cons h1 (h2.narrow hl e.1.2) (ih e.2)
theorem RO.narrow (hl : ρ.length = n) {a : Addr} {o : Ob} (h : RO K (ρ ++ r) H a o) (e : o.bel n = true) : RO K ρ H a o := by
  cases o with
  | lst xs => obtain ⟨vs, h1, h2⟩ := h; exact ⟨vs, h1, h2.narrow hl e⟩
  | dic kvs => obtain ⟨vs, h1, h2⟩ := h; exact ⟨vs, h1, h2.narrow hl e⟩
  | ins c fs => exact h.elim
theorem belS_mem : ∀ {S : Sto} {o : Ob}, belS n S = true → o ∈ S → o.bel n = true
  | o' :: r, o, h, hm => by
    simp only [belS, Bool.and_eq_true] at h
    rcases List.mem_cons.mp hm with rfl | hm
    · exact h.1
    · exact belS_mem h.2 hm
theorem RS.narrow (hl : ρ.length = n) (R : RS K (ρ ++ r) H S) (hb : belS n (S.take n) = true) : RS K ρ H (S.take n) := by
  have hS : n ≤ S.length := by
    have := R.len
    rw [List.length_append] at this
    omega
  refine ⟨by rw [List.length_take]; omega, (List.nodup_append.mp R.nd).1, fun l a o h1 h2 => ?_⟩
  have hln : l < n := by
    have := (List.getElem?_eq_some_iff.mp h1).1
    omega
  have h2' : S[l]? = some o := by rw [List.getElem?_take_of_lt hln] at h2; exact h2
  have h1' : (ρ ++ r)[l]? = some a := by rw [List.getElem?_append_left (by omega)]; exact h1
  exact (R.at' l a o h1' h2').narrow hl (belS_mem hb (List.mem_of_getElem? h2))
theorem cut_post {v : V} {x : Rv} (hl : ρ.length = n) (e : Ext ρ H ρ2 H2) (R : RS K ρ2 H2 S2) (hx : RR K ρ2 H2 v x) (nw : ∀ o a, x = .t o → v = .ref a → H a = none) (h : OutE K ρ H W Q (cut n x S2)) : Q v H2 := by
  obtain ⟨r, rfl, hr⟩ := e.more
  have e0 : Ext ρ H ρ H2 := ⟨⟨[], by simp, by simp⟩, e.keep, e.dom⟩
  unfold cut at h
  split at h
  · rename_i hb
    have R0 := RS.narrow hl R hb
    split at h
    · rename_i l
      cases hx with
      | ref hρ =>
        rename_i a
        split at h
        · rename_i hln
          rw [List.getElem?_append_left (by omega)] at hρ
          exact h ρ H2 e0 R0 _ (.ref hρ) nw
        · rename_i hln
          split at h
          · rename_i o ho
            split at h
            · rename_i hob
              have ha : a ∈ r := by
                rw [List.getElem?_append_right (by omega)] at hρ
                exact List.mem_of_getElem? hρ
              have hn : a ∉ ρ := fun z => (List.nodup_append.mp R.nd).2.2 a z a ha rfl
              exact h ρ H2 e0 R0 (.ref a) ⟨a, rfl, hn, (R.at' l a o hρ ho).narrow hl hob⟩ fun o' p _ e' => by
                cases e'
                exact hr a ha
            · exact h _ H2 e R _ (.ref hρ) nw
          · exact h _ H2 e R _ (.ref hρ) nw
    · split at h
      · rename_i hb2
        cases x with
        | v x => exact h ρ H2 e0 R0 _ (RV.narrow hl hx hb2) nw
        | t o =>
          obtain ⟨a, rfl, na, ho⟩ := hx
          exact h ρ H2 e0 R0 _ ⟨a, rfl, fun z => na (List.mem_append_left _ z), ho.narrow hl hb2⟩ nw
      · exact h _ H2 e R _ hx nw
  · exact h _ H2 e R _ hx nw
end
section
variable {X : Cx} {T : Fns} {W : WX} {G : Glb} {pos : Pos} {e a b c o : Expr} {a' b' c' o' : E} {es rest : List Expr} {es' : Es}
theorem SE.call {f : Str} {n : Nat} {p1 : Pos} (g : Gd X G T W) (hf : (f, n) ∈ G.fns) (hr : SA X T W (e :: es) es') (hn : (e :: es).all notStar = true) (hg : glB X.env.scope f = true) (hd : (f == ("__debug__" : Str)) = false) (hl : es'.len = n) :
    SE X T W (.Call (.Name f p1) (e :: es) [] pos) (.call f es') := by
  obtain ⟨t, p, s⟩ := hr
  obtain ⟨ad, fd, ps, k, F, hr, hm, hk, hb⟩ := g.fns f n hf
  simp only [List.all_cons, Bool.and_eq_true] at hn
  refine ⟨_, pe_callS F hr (gl_of hg) hm hk hb (fun σ => passAt g.tk σ) p hd (star_cons _ hn.1) (star_plain _ _ hn.2), fun ρ σ env H S Q he hs h => ?_⟩
  refine s ρ σ env H S _ he hs (OutG.imp (OutG.toE0 h) fun xs ρ1 H1 S1 eq e1 R1 q vs hv => ?_)
  refine ⟨ρ1, S1, xs, by rw [hv.length, evA_len es' env S xs S1 eq]; exact hl, hv, R1, ?_⟩
  cases hT : T f xs S1 with
  | ok r S2 =>
    rw [hT, Res.bind_ok] at q
    intro ρ2 H2 e2 R2 v hx nw
    exact cut_post hs.len (e1.trans e2) R2 hx (fun o a h1 h2 => e1.dom a (nw o a h1 h2)) q
  | exc x S2 =>
    rw [hT, Res.bind_exc] at q
    intro c d ρ2 H2 px
    exact q c d ρ2 H2 (px.mono e1)
  | bad => rw [hT, Res.bind_bad] at q; exact q

/-- a call without arguments -/
theorem pe_callS0 {CX : CXT} {k : Nat} {f : Addr} {fd : FuncData} {ps : List Str} {sp : Sp} {E : St → XK} {x : Str} {p1 : Pos} (F : FnOk X.prog X.w X.K X.mg X.base CX k f fd ps sp) (hr : Room k X.A) (hg : Gl X x) (hm : X.mg x = some (.ref f)) (hk : PySem.W.keepIn X.K (.ref f) = true) (hb : Binds X.K fd ps []) (hx : ∀ σ, PassesAt CX X σ (E σ))
    (hdb : (x == ("__debug__" : Str)) = false) : PE X (.Call (.Name x p1) [] [] pos) (fun σ H Q => sp [] H Q (E σ)) := by
  refine ⟨fun pins s σ H Q I h => ?_⟩
  refine wpAny_Call_Name_kw (ld_glob I hg hm ?_ hdb)
  exact PySem.W.callWith_K0 I.kIn hk (run_fnS (us := []) F hr hb (hx σ) I .nil h)
theorem SE.call0 {f : Str} {p1 : Pos} (g : Gd X G T W) (hf : (f, 0) ∈ G.fns) (hg : glB X.env.scope f = true) (hd : (f == ("__debug__" : Str)) = false) :
    SE X T W (.Call (.Name f p1) [] [] pos) (.call0 f) := by
  obtain ⟨ad, fd, ps, k, F, hr, hm, hk, hb⟩ := g.fns f 0 hf
  refine ⟨_, pe_callS0 F hr (gl_of hg) hm hk hb (fun σ => passAt g.tk σ) hd, fun ρ σ env H S Q he hs h => ?_⟩
  refine ⟨ρ, S, [], rfl, .nil, hs, ?_⟩
  have h' : OutE X.K ρ H (wAt W σ) Q (((T f [] S).nox).bind fun r S2 => cut S.length r S2) := h
  cases hT : T f [] S with
  | ok r S2 =>
    rw [hT] at h'
    intro ρ2 H2 e2 R2 v hx nw
    exact cut_post hs.len e2 R2 hx nw h'
  | exc x S2 => rw [hT] at h'; exact False.elim h'
  | bad => rw [hT] at h'; exact False.elim h'

/-! ### methods of lists -/
def mfName : Mf → Str
  | .append => "append"
  | .pop => "pop"
  | .reverse => "reverse"
  | .clear => "clear"
def rM : Mf → V → List V → Hp → VK → Prop
  | .append => rAppend
  | .pop => fun x vs H Q => rPop x vs H Q ∨ rPopAt x vs H Q
  | .reverse => rReverse
  | .clear => rClear
theorem met_snd {K : PySem.W.Frag} {ρ : List Addr} {H : Hp} {S : Sto} {Wd : Value → Option Addr → Hp → Prop} {Q : V → Hp → Prop} {m : Mf} {l : Nat} {ad : Addr} {vs : List V} {xs : List Val} {r : Rv × Sto} (R : RS K ρ H S) (hl : ρ[l]? = some ad) (hv : RVs K ρ H vs xs)
    (e : metR m l xs S = some r) (h : OutE K ρ H Wd Q (.ok r.1 r.2)) : rM m (.ref ad) vs H Q := by
  unfold metR at e
  split at e
  · rename_i ys hy
    obtain ⟨ws, h1, h2⟩ := R.lst hl hy
    split at e
    · split at e
      · rename_i hz
        cases e
        cases hv with
        | cons hv hnil =>
          cases hnil
          obtain ⟨e1, R1⟩ := R.relist hl (h2.append (.cons hv .nil))
          exact ⟨ad, ws, _, rfl, rfl, h1, by rw [h2.length]; exact hz, h ρ _ e1 R1 _ RV.non fun _ _ z _ => nomatch z⟩
      · cases e
    · cases hv
      cases q : ys[ys.length - 1]? with
      | none => rw [q] at e; cases e
      | some y =>
        rw [q] at e
        cases e
        obtain ⟨u, h3, h4⟩ := h2.get q
        obtain ⟨e1, R1⟩ := R.relist hl h2.dropLast
        exact .inl ⟨ad, ws, u, rfl, rfl, h1, by rw [h2.length]; exact h3, h ρ _ e1 R1 _ (RV.ext R e1 h4) fun _ _ z _ => nomatch z⟩
    · rename_i i
      cases hv with
      | cons hv hnil =>
        cases hnil
        cases hv
        split at e
        · rename_i hb
          cases q : seqIndex? i ys.length with
          | none => rw [q] at e; cases e
          | some k =>
            rw [q] at e
            simp only [Option.bind_some] at e
            cases q2 : ys[k]? with
            | none => rw [q2] at e; cases e
            | some y =>
              rw [q2] at e
              cases e
              obtain ⟨u, h3, h4⟩ := h2.get q2
              obtain ⟨e1, R1⟩ := R.relist hl (h2.eraseIdx k)
              exact .inr ⟨ad, ws, i, k, u, rfl, rfl, h1, hb.1, hb.2, by rw [h2.length]; exact q, h3, h ρ _ e1 R1 _ (RV.ext R e1 h4) fun _ _ z _ => nomatch z⟩
        · cases e
    · cases e
      cases hv
      obtain ⟨e1, R1⟩ := R.relist hl h2.reverse
      exact ⟨ad, ws, rfl, rfl, h1, h ρ _ e1 R1 _ RV.non fun _ _ z _ => nomatch z⟩
    · cases e
      cases hv
      obtain ⟨e1, R1⟩ := R.relist (vs := []) (xs := []) hl .nil
      exact ⟨ad, ws, rfl, rfl, h1, h ρ _ e1 R1 _ RV.non fun _ _ z _ => nomatch z⟩
    · cases e
  · cases e
theorem pe_list0 {m : Mf} {to : TE} {apos : Pos} (ho : PE X o to) (hb : plainBase o = true) (hline : (apos.endLine == pos.line) = true) : PE X (.Call (.Attribute o (mfName m) apos) [] [] pos) (tBM0 X.K "list" (rM m) to) := by
  cases m with
  | append => exact pe_bm0 PySem.F.plainAttrs_list PySem.F.slot_list_append PySem.F.type_list_append mt_append ho (base_plain hb) hline
  | pop => exact pe_bm0 PySem.F.plainAttrs_list PySem.F.slot_list_pop PySem.F.type_list_pop (MtR.or mt_pop mt_popAt) ho (base_plain hb) hline
  | reverse => exact pe_bm0 PySem.F.plainAttrs_list PySem.F.slot_list_reverse PySem.F.type_list_reverse mt_reverse ho (base_plain hb) hline
  | clear => exact pe_bm0 PySem.F.plainAttrs_list PySem.F.slot_list_clear PySem.F.type_list_clear mt_clear ho (base_plain hb) hline
theorem pe_list {m : Mf} {to : TE} {t : TA} {apos : Pos} (ho : PE X o to) (ha : PA X (e :: es) t) (hb : plainBase o = true) (hline : (apos.endLine == pos.line) = true) (hn : (e :: es).all notStar = true) (hlen : (e :: es).length < 30) : PE X (.Call (.Attribute o (mfName m) apos) (e :: es) [] pos) (tBM X.K "list" (rM m) to t) := by
  have hn' := hn
  simp only [List.all_cons, Bool.and_eq_true] at hn'
  have hfew : ((backTo pos (starEach (e :: es) X.env)).all (fun x => !x.1) && (backToKw pos (keywordEach [] X.env)).all (fun x => x.1.isSome)
      && decide ((e :: es).length + ([] : List Keyword).length + (if ([] : List Keyword).isEmpty then 0 else 1) < 30)) = true := by
    rw [star_all _ _ hn]
    show (true && true && decide ((e :: es).length + 0 + 0 < 30)) = true
    simpa using hlen
  cases m with
  | append => exact pe_bm PySem.F.plainAttrs_list PySem.F.slot_list_append PySem.F.type_list_append mt_append ho ha (base_plain hb) hfew hline (star_cons _ hn'.1) (star_plain _ _ hn'.2)
  | pop => exact pe_bm PySem.F.plainAttrs_list PySem.F.slot_list_pop PySem.F.type_list_pop (MtR.or mt_pop mt_popAt) ho ha (base_plain hb) hfew hline (star_cons _ hn'.1) (star_plain _ _ hn'.2)
  | reverse => exact pe_bm PySem.F.plainAttrs_list PySem.F.slot_list_reverse PySem.F.type_list_reverse mt_reverse ho ha (base_plain hb) hfew hline (star_cons _ hn'.1) (star_plain _ _ hn'.2)
  | clear => exact pe_bm PySem.F.plainAttrs_list PySem.F.slot_list_clear PySem.F.type_list_clear mt_clear ho ha (base_plain hb) hfew hline (star_cons _ hn'.1) (star_plain _ _ hn'.2)
theorem OutE.ofP {K : PySem.W.Frag} {ρ : List Addr} {H : Hp} {S : Sto} {Wd : Value → Option Addr → Hp → Prop} {Q : V → Hp → Prop} {o : Option (Rv × Sto)} (h : OutE K ρ H Wd Q ((Res.of o S).bind fun p _ => .ok p.1 p.2)) : ∃ r, o = some r ∧ OutE K ρ H Wd Q (.ok r.1 r.2) := by
  cases o with
  | none => exact h.elim
  | some r => exact ⟨r, rfl, h⟩
theorem SE.met0 {m : Mf} {apos : Pos} (ho : SE X T W o o') (hb : plainBase o = true) (hline : (apos.endLine == pos.line) = true) : SE X T W (.Call (.Attribute o (mfName m) apos) [] [] pos) (.met m o' .nil) := by
  obtain ⟨t, p, s⟩ := ho
  refine ⟨_, pe_list0 p hb hline, fun ρ σ env H S Q he hs h => ?_⟩
  refine s ρ σ env H S _ he hs ((OutE.bndE h).imp fun v H1 ⟨x, S1, ρ1, po, h1⟩ => ?_)
  split at h1
  · rename_i l
    split at h1
    · rename_i xs hx
      cases po with
      | mk e1 rel R1 nw =>
        cases rel with
        | ref hl =>
          obtain ⟨vs, h3, h4⟩ := R1.lst hl hx
          obtain ⟨r, hr, h5⟩ := OutE.ofP h1
          exact ⟨.inl ⟨rfl, vs, SqL.of h3⟩, met_snd R1 hl .nil hr h5⟩
    · exact h1.elim
  · exact h1.elim
theorem SE.met {m : Mf} {apos : Pos} (ho : SE X T W o o') (hr : SA X T W (e :: es) es') (hb : plainBase o = true) (hline : (apos.endLine == pos.line) = true) (hn : (e :: es).all notStar = true) (hlen : (e :: es).length < 30) : SE X T W (.Call (.Attribute o (mfName m) apos) (e :: es) [] pos) (.met m o' es') := by
  obtain ⟨t, p, s⟩ := ho
  obtain ⟨t2, p2, s2⟩ := hr
  refine ⟨_, pe_list p p2 hb hline hn hlen, fun ρ σ env H S Q he hs h => ?_⟩
  refine s ρ σ env H S _ he hs ((OutE.bndE h).imp fun v H1 ⟨x, S1, ρ1, po, h1⟩ => ?_)
  split at h1
  · rename_i l
    split at h1
    · rename_i xs hx
      cases po with
      | mk e1 rel R1 nw =>
        cases rel with
        | ref hl =>
          obtain ⟨vs, h3, h4⟩ := R1.lst hl hx
          refine ⟨.inl ⟨rfl, vs, SqL.of h3⟩, ?_⟩
          refine s2 ρ1 σ env H1 S1 _ (he.ext hs e1) R1 (OutG.imp (OutG.toE h1) fun ys ρ2 H2 S2 _ e2 R2 q ws hw => ?_)
          obtain ⟨r, hr, h5⟩ := OutE.ofP q
          exact met_snd R2 (e2.pre hl) hw hr h5
    · exact h1.elim
  · exact h1.elim
theorem SE.ext {apos : Pos} (ho : SE X T W o o') (ha : SE X T W e a') (hb : plainBase o = true) (hline : (apos.endLine == pos.line) = true) (hn : notStar e = true) : SE X T W (.Call (.Attribute o "extend" apos) [e] [] pos) (.ext o' a') := by
  obtain ⟨t, p, s⟩ := ho
  obtain ⟨t2, p2, s2⟩ := ha
  have hfew : ((backTo pos (starEach [e] X.env)).all (fun x => !x.1) && (backToKw pos (keywordEach [] X.env)).all (fun x => x.1.isSome)
      && decide ([e].length + ([] : List Keyword).length + (if ([] : List Keyword).isEmpty then 0 else 1) < 30)) = true := by
    rw [star_all _ _ (by simpa using hn)]
    rfl
  refine ⟨_, pe_bm PySem.F.plainAttrs_list PySem.F.slot_list_extend PySem.F.type_list_extend mt_extend p (pa_cons p2 pa_nil (star_cons _ hn)) (base_plain hb) hfew hline (star_cons _ hn) rfl, fun ρ σ env H S Q he hs h => ?_⟩
  refine s ρ σ env H S _ he hs ((OutE.bndE h).imp fun v H1 ⟨x, S1, ρ1, po, h1⟩ => ?_)
  split at h1
  · rename_i l
    split at h1
    · rename_i xs hx
      cases po with
      | mk e1 rel R1 nw =>
        cases rel with
        | ref hl =>
          obtain ⟨vs, h3, h4⟩ := R1.lst hl hx
          refine ⟨.inl ⟨rfl, vs, SqL.of h3⟩, ?_⟩
          refine s2 ρ1 σ env H1 S1 _ (he.ext hs e1) R1 ((OutE.bndE h1).imp fun w H2 ⟨y, S2, ρ2, po2, h2⟩ => ?_)
          obtain ⟨r, hr, h5⟩ := OutE.ofP h2
          unfold extR at hr
          split at hr
          · rename_i ys zs hy hz
            split at hr
            · rename_i hlen
              cases hr
              obtain ⟨us, h6, h7⟩ := po2.sto.lst (po2.ext.pre hl) hy
              obtain ⟨p2, ws, rfl, h8, h9⟩ := RR.lstW po2.sto po2.rel hz
              obtain ⟨e3, R3⟩ := po2.sto.relist (po2.ext.pre hl) (h7.append h9)
              exact ⟨_, p2, us, ws, rfl, rfl, h6, h8, by rw [h7.length, h9.length]; exact hlen, h5 ρ2 _ e3 R3 _ RV.non fun _ _ z _ => nomatch z⟩
            · cases hr
          · cases hr
    · exact h1.elim
  · exact h1.elim

/-! ### what is walked -/
/-- how an iterator goes through the items, while nothing that it reads is changed -/
def Yd (K : PySem.W.Frag) (ρ0 : List Addr) (H0 : Hp) (src : Src) (J : L2.It) : Prop := ∀ ρ H S, Ext ρ0 H0 ρ H → RS K ρ H S → liveOk S src.live → ∀ i : Nat,
  (∀ z, src.items[i]? = some z → J.go i H ∧ ∀ x H', J.yld i H x H' → Ext ρ H ρ H' ∧ RS K ρ H' S ∧ RV K ρ H' x z) ∧ (src.items[i]? = none → J.stop i H)
def SI (X : Cx) (T : Fns) (W : WX) (tg it : Expr) (it' : Fe.It) : Prop := ∃ wi, PI X tg it wi ∧ ∀ ρ σ env H S R, RE X.K ρ H σ env → RS X.K ρ H S → OutG (fun src ρ' H' _ => ∀ J, Yd X.K ρ' H' src J → R J H') X.K ρ H (wAt W σ) (evI T it' env S) → wi σ H R
section
variable {K : PySem.W.Frag} {ρ0 : List Addr} {H0 : Hp} {S0 : Sto}
/-- a list, a tuple that can be read all along -/
def RdL (K : PySem.W.Frag) (ρ0 : List Addr) (H0 : Hp) (a : Addr) (xs : List Val) (live : List (Nat × List Val)) : Prop := ∀ ρ H S, Ext ρ0 H0 ρ H → RS K ρ H S → liveOk S live → ∃ vs, SqL K H a vs ∧ RVs K ρ H vs xs
def RdT (K : PySem.W.Frag) (ρ0 : List Addr) (H0 : Hp) (a : Addr) (xs : List Val) : Prop := ∀ ρ H S, Ext ρ0 H0 ρ H → RS K ρ H S → ∃ vs, SqT K H a vs ∧ RVs K ρ H vs xs
theorem rdT_of {v : V} {xs : List Val} (R : RS K ρ0 H0 S0) (h : RR K ρ0 H0 v (.v (.tup xs))) : ∃ a, v = .ref a ∧ RdT K ρ0 H0 a xs := by
  obtain ⟨a, vs, rfl, h1, r1⟩ := h.seqT
  exact ⟨a, rfl, fun ρ H S e _ => ⟨vs, SqT.ext R e h1, r1.ext R e⟩⟩
theorem rdL_of {v : V} {r : Rv} {src : Src} (R : RS K ρ0 H0 S0) (h : RR K ρ0 H0 v r) (hl : isLst S0 r = true) (e : srcOf S0 r = some src) : ∃ a, v = .ref a ∧ RdL K ρ0 H0 a src.items src.live ∧ ∃ vs, SqL K H0 a vs := by
  unfold srcOf at e
  split at e
  · cases hl
  · cases e
    cases h with
    | fls h1 r1 => exact ⟨_, rfl, fun ρ H S e _ _ => ⟨_, (SqF.ext R e h1).sq, r1.ext R e⟩, _, h1.sq⟩
  · cases hl
  · cases e
    obtain ⟨a, rfl, n, vs, h1, r1⟩ := h
    exact ⟨a, rfl, fun ρ H S e _ _ => ⟨vs, SqL.of (e.keep _ _ h1 n), r1.ext R e⟩, vs, SqL.of h1⟩
  · split at e
    · rename_i l xs hx
      cases e
      cases h with
      | ref hl =>
        obtain ⟨vs, h1, r1⟩ := R.lst hl hx
        refine ⟨_, rfl, fun ρ H S e R' hlive => ?_, vs, SqL.of h1⟩
        obtain ⟨ws, h2, r2⟩ := R'.lst (e.pre hl) hlive.1
        exact ⟨ws, SqL.of h2, r2⟩
    · cases e
  · cases e
theorem yd_list {a : Addr} {src : Src} (h : RdL K ρ0 H0 a src.items src.live) : Yd K ρ0 H0 src (Itl K a) := by
  intro ρ H S e R hl i
  obtain ⟨vs, h1, r1⟩ := h ρ H S e R hl
  refine ⟨fun z hz => ?_, fun hn => ?_⟩
  · obtain ⟨v, h2, h3⟩ := r1.get hz
    refine ⟨⟨vs, v, h1, h2⟩, fun x H' ⟨hH, hy⟩ => ?_⟩
    subst hH
    have := hy vs h1
    rw [h2] at this
    cases this
    exact ⟨Ext.refl, R, h3⟩
  · exact ⟨vs, h1, by rw [r1.length]; exact List.getElem?_eq_none_iff.mp hn⟩
theorem yd_tup {a : Addr} {src : Src} (h : RdT K ρ0 H0 a src.items) : Yd K ρ0 H0 src (Itt K a) := by
  intro ρ H S e R hl i
  obtain ⟨vs, h1, r1⟩ := h ρ H S e R
  refine ⟨fun z hz => ?_, fun hn => ?_⟩
  · obtain ⟨v, h2, h3⟩ := r1.get hz
    refine ⟨⟨vs, v, h1, h2⟩, fun x H' ⟨hH, hy⟩ => ?_⟩
    subst hH
    have := hy vs h1
    rw [h2] at this
    cases this
    exact ⟨Ext.refl, R, h3⟩
  · exact ⟨vs, h1, by rw [r1.length]; exact List.getElem?_eq_none_iff.mp hn⟩
theorem enumFrom_get : ∀ (xs : List Val) (k i : Nat), (enumFrom k xs)[i]? = (xs[i]?).map fun x => .tup [.int ((k + i : Nat) : Int), x]
  | [], _, _ => rfl
  | x :: r, k, 0 => rfl
  | x :: r, k, i + 1 => by
    show (enumFrom (k + 1) r)[i]? = _
    rw [enumFrom_get r (k + 1) i]
    show _ = (r[i]?).map _
    rw [show k + 1 + i = k + (i + 1) by omega]
theorem zipV_get : ∀ (xs ys : List Val) (i : Nat), (zipV xs ys)[i]? = match xs[i]?, ys[i]? with | some x, some y => some (.tup [x, y]) | _, _ => none
  | [], ys, i => by simp [zipV]
  | x :: r, [], i => by
    simp only [zipV]
    cases h : (x :: r)[i]? <;> simp
  | x :: r, y :: s, 0 => rfl
  | x :: r, y :: s, i + 1 => by
    show (zipV r s)[i]? = _
    rw [zipV_get r s i]
    rfl
theorem yd_enum {a : Addr} {src : Src} (h : RdL K ρ0 H0 a src.items src.live) : Yd K ρ0 H0 ⟨enumFrom 0 src.items, src.live⟩ (Ite K a) := by
  intro ρ H S e R hl i
  obtain ⟨vs, h1, r1⟩ := h ρ H S e R hl
  show (∀ z, (enumFrom 0 src.items)[i]? = some z → _) ∧ ((enumFrom 0 src.items)[i]? = none → _)
  rw [enumFrom_get, Nat.zero_add]
  refine ⟨fun z hz => ?_, fun hn => ?_⟩
  · cases q : src.items[i]? with
    | none => rw [q] at hz; cases hz
    | some y =>
      rw [q] at hz
      cases hz
      obtain ⟨v, h2, h3⟩ := r1.get q
      refine ⟨⟨vs, v, h1, h2⟩, fun x H' ⟨Tp, w, e1, hT, e2, hy⟩ => ?_⟩
      subst e1 e2
      have := hy vs h1
      rw [h2] at this
      cases this
      exact ⟨Ext.new hT, R.new hT, .tup (SqT.of upd_same) (.cons (.int _) (.cons (h3.ext R (Ext.new hT)) .nil))⟩
  · cases q : src.items[i]? with
    | some y => rw [q] at hn; cases hn
    | none => exact ⟨vs, h1, by rw [r1.length]; exact List.getElem?_eq_none_iff.mp q⟩
theorem yd_enumT {a : Addr} {xs : List Val} (h : RdT K ρ0 H0 a xs) : Yd K ρ0 H0 ⟨enumFrom 0 xs, []⟩ (IteT K a) := by
  intro ρ H S e R hl i
  obtain ⟨vs, h1, r1⟩ := h ρ H S e R
  show (∀ z, (enumFrom 0 xs)[i]? = some z → _) ∧ ((enumFrom 0 xs)[i]? = none → _)
  rw [enumFrom_get, Nat.zero_add]
  refine ⟨fun z hz => ?_, fun hn => ?_⟩
  · cases q : xs[i]? with
    | none => rw [q] at hz; cases hz
    | some y =>
      rw [q] at hz
      cases hz
      obtain ⟨v, h2, h3⟩ := r1.get q
      refine ⟨⟨vs, v, h1, h2⟩, fun x H' ⟨Tp, w, e1, hT, e2, hy⟩ => ?_⟩
      subst e1 e2
      have := hy vs h1
      rw [h2] at this
      cases this
      exact ⟨Ext.new hT, R.new hT, .tup (SqT.of upd_same) (.cons (.int _) (.cons (h3.ext R (Ext.new hT)) .nil))⟩
  · cases q : xs[i]? with
    | some y => rw [q] at hn; cases hn
    | none => exact ⟨vs, h1, by rw [r1.length]; exact List.getElem?_eq_none_iff.mp q⟩
theorem live_append {S : Sto} : ∀ {l l' : List (Nat × List Val)}, liveOk S (l ++ l') → liveOk S l ∧ liveOk S l'
  | [], _, h => ⟨trivial, h⟩
  | (k, xs) :: r, l', h => let ⟨h1, h2⟩ := live_append (l := r) h.2; ⟨⟨h.1, h1⟩, h2⟩
theorem zip_none {xs ys : List Val} {i : Nat} (h : (zipV xs ys)[i]? = none) : xs.length ≤ i ∨ ys.length ≤ i := by
  rw [zipV_get] at h
  cases q : xs[i]? with
  | none => exact .inl (List.getElem?_eq_none_iff.mp q)
  | some x =>
    cases q2 : ys[i]? with
    | none => exact .inr (List.getElem?_eq_none_iff.mp q2)
    | some y => rw [q, q2] at h; cases h
theorem zip_some {xs ys : List Val} {i : Nat} {z : Val} (h : (zipV xs ys)[i]? = some z) : ∃ x y, xs[i]? = some x ∧ ys[i]? = some y ∧ z = .tup [x, y] := by
  rw [zipV_get] at h
  cases q : xs[i]? with
  | none => rw [q] at h; cases h
  | some x =>
    cases q2 : ys[i]? with
    | none => rw [q, q2] at h; cases h
    | some y =>
      rw [q, q2] at h
      cases h
      exact ⟨x, y, rfl, rfl, rfl⟩
theorem yd_zip {a b : Addr} {s s' : Src} (h : RdL K ρ0 H0 a s.items s.live) (h' : RdL K ρ0 H0 b s'.items s'.live) : Yd K ρ0 H0 ⟨zipV s.items s'.items, s.live ++ s'.live⟩ (Itz K a b) := by
  intro ρ H S e R hl i
  obtain ⟨l1, l2⟩ := live_append hl
  obtain ⟨vs, h1, r1⟩ := h ρ H S e R l1
  obtain ⟨ws, g1, q1⟩ := h' ρ H S e R l2
  refine ⟨fun z hz => ?_, fun hn => ?_⟩
  · obtain ⟨x, y, hx, hy, rfl⟩ := zip_some hz
    obtain ⟨v, h2, h3⟩ := r1.get hx
    obtain ⟨w, g2, g3⟩ := q1.get hy
    refine ⟨⟨vs, ws, v, w, h1, g1, h2, g2⟩, fun u H' ⟨Tp, p, q, e1, hT, e2, hy1, hy2⟩ => ?_⟩
    subst e1 e2
    have z1 := hy1 vs h1
    have z2 := hy2 ws g1
    rw [h2] at z1
    rw [g2] at z2
    cases z1
    cases z2
    exact ⟨Ext.new hT, R.new hT, .tup (SqT.of upd_same) (.cons (h3.ext R (Ext.new hT)) (.cons (g3.ext R (Ext.new hT)) .nil))⟩
  · refine ⟨vs, ws, h1, g1, ?_⟩
    rw [r1.length, q1.length]
    exact zip_none hn
theorem yd_zipT {a b : Addr} {s s' : Src} (h : RdT K ρ0 H0 a s.items) (h' : RdT K ρ0 H0 b s'.items) (lv : List (Nat × List Val)) : Yd K ρ0 H0 ⟨zipV s.items s'.items, lv⟩ (RZ.ItzT K a b) := by
  intro ρ H S e R hl i
  obtain ⟨vs, h1, r1⟩ := h ρ H S e R
  obtain ⟨ws, g1, q1⟩ := h' ρ H S e R
  refine ⟨fun z hz => ?_, fun hn => ?_⟩
  · obtain ⟨x, y, hx, hy, rfl⟩ := zip_some hz
    obtain ⟨v, h2, h3⟩ := r1.get hx
    obtain ⟨w, g2, g3⟩ := q1.get hy
    refine ⟨⟨vs, ws, v, w, h1, g1, h2, g2⟩, fun u H' ⟨Tp, p, q, e1, hT, e2, hy1, hy2⟩ => ?_⟩
    subst e1 e2
    have z1 := hy1 vs h1
    have z2 := hy2 ws g1
    rw [h2] at z1
    rw [g2] at z2
    cases z1
    cases z2
    exact ⟨Ext.new hT, R.new hT, .tup (SqT.of upd_same) (.cons (h3.ext R (Ext.new hT)) (.cons (g3.ext R (Ext.new hT)) .nil))⟩
  · refine ⟨vs, ws, h1, g1, ?_⟩
    rw [r1.length, q1.length]
    exact zip_none hn
theorem rngL_get (lo : Int) (n i : Nat) : (rngL lo n)[i]? = if i < n then some (.int (lo + i)) else none := by
  unfold rngL
  rw [List.getElem?_map]
  by_cases h : i < n
  · rw [List.getElem?_range h, if_pos h]; rfl
  · rw [List.getElem?_eq_none (by simpa using h), if_neg h]; rfl
theorem yd_range {lo : Int} {n : Nat} : Yd K ρ0 H0 ⟨rngL lo n, []⟩ (Itr lo n) := by
  intro ρ H S e R hl i
  show (∀ z, (rngL lo n)[i]? = some z → _) ∧ ((rngL lo n)[i]? = none → _)
  rw [rngL_get]
  refine ⟨fun z hz => ?_, fun hn => ?_⟩
  · split at hz
    · rename_i hi
      cases hz
      refine ⟨hi, fun x H' ⟨e1, e2⟩ => ?_⟩
      subst e1 e2
      exact ⟨Ext.refl, R, .int _⟩
    · cases hz
  · split at hn
    · cases hn
    · exact Nat.le_of_not_lt (by assumption)
theorem yd_str {s : Str} : Yd K ρ0 H0 ⟨s.cps.toList.map fun c => .str ⟨#[c]⟩, []⟩ (Its s) := by
  intro ρ H S e R hl i
  show (∀ z, (s.cps.toList.map fun c => Val.str ⟨#[c]⟩)[i]? = some z → _) ∧ ((s.cps.toList.map fun c => Val.str ⟨#[c]⟩)[i]? = none → _)
  rw [List.getElem?_map, Array.getElem?_toList]
  refine ⟨fun z hz => ?_, fun hn => ?_⟩
  · cases q : s.cps[i]? with
    | none => rw [q] at hz; cases hz
    | some c =>
      rw [q] at hz
      cases hz
      refine ⟨(Array.getElem?_eq_some_iff.mp q).1, fun x H' ⟨e1, c2, e2, e3⟩ => ?_⟩
      subst e1 e3
      rw [q] at e2
      cases e2
      exact ⟨Ext.refl, R, .str _⟩
  · cases q : s.cps[i]? with
    | some c => rw [q] at hn; cases hn
    | none => exact Array.getElem?_eq_none_iff.mp q
end
/-! ### iterables -/
theorem PI.or {tg it : Expr} {w1 w2 : TI} (h1 : PI X tg it w1) (h2 : PI X tg it w2) : PI X tg it (fun σ H R => w1 σ H R ∨ w2 σ H R) :=
  ⟨fun pins s σ H R I h => h.elim (h1.run pins s σ H R I) (h2.run pins s σ H R I)⟩
theorem SI.list {tg : Expr} (ha : SE X T W a a') : SI X T W tg a (.e a') := by
  obtain ⟨t, p, s⟩ := ha
  refine ⟨_, PI.or (pi_list p) (PI.or (pi_tup p) (pi_str p)), fun ρ σ env H S R he hs h => ?_⟩
  have go : ∀ Q : V → Hp → Prop, OutE X.K ρ H (wAt W σ) Q (evE T a' env S) → t σ H Q := fun Q q => s ρ σ env H S Q he hs q
  have h' : OutG (fun src ρ' H' _ => ∀ J, Yd X.K ρ' H' src J → R J H') X.K ρ H (wAt W σ) ((evE T a' env S).bind fun x S => .of (srcOf S x) S) := h
  revert h' go
  generalize evE T a' env S = r
  intro go h'
  cases r with
  | bad => exact h'.elim
  | exc x S1 => exact .inl (go _ h')
  | ok x S1 =>
    rw [Res.bind_ok] at h'
    obtain ⟨src, hsrc, h2⟩ := OutG.ofS h'
    by_cases hl : isLst S1 x = true
    · refine .inl (go _ fun ρ1 H1 e1 R1 v hv _ => ?_)
      obtain ⟨ad, rfl, hrd, hsq⟩ := rdL_of R1 hv hl hsrc
      exact ⟨ad, rfl, hsq, h2 ρ1 H1 e1 R1 _ (yd_list hrd)⟩
    · unfold srcOf at hsrc
      split at hsrc
      · cases hsrc
        refine .inr (.inl (go _ fun ρ1 H1 e1 R1 v hv _ => ?_))
        obtain ⟨ad, rfl, hrd⟩ := rdT_of R1 hv
        obtain ⟨vs, h3, _⟩ := hrd ρ1 H1 S1 Ext.refl R1
        exact ⟨ad, rfl, ⟨vs, h3⟩, h2 ρ1 H1 e1 R1 _ (yd_tup hrd)⟩
      · exact absurd rfl hl
      · cases hsrc
        refine .inr (.inr (go _ fun ρ1 H1 e1 R1 v hv _ => ?_))
        exact ⟨_, hv.str, h2 ρ1 H1 e1 R1 _ yd_str⟩
      · exact absurd rfl hl
      · rename_i l
        split at hsrc
        · rename_i xs hx
          exfalso
          apply hl
          simp [isLst, Fe.lstOf, Fe.lstW, hx]
        · cases hsrc
      · cases hsrc
theorem star1 (env : PySem.Env) {e : Expr} (h : notStar e = true) : starEach [e] env = [(false, eval e env)] := star_cons env h
theorem star2 (env : PySem.Env) {e f : Expr} (h : notStar e = true) (h' : notStar f = true) : starEach [e, f] env = [(false, eval e env), (false, eval f env)] := by
  rw [star_cons env h, star1 env h']
theorem SI.range1 {tg : Expr} {p1 : Pos} (g : Gd X G T W) (ha : SE X T W a a') (hn : notStar a = true) (hg : glB X.env.scope "range" = true) : SI X T W tg (.Call (.Name "range" p1) [a] [] pos) (.rg1 a') := by
  obtain ⟨t, p, s⟩ := ha
  refine ⟨_, pi_range1 (gl_of hg) (g.blt _ (by decide +kernel)) (pa_cons p pa_nil (star_cons _ hn)) (star1 _ hn), fun ρ σ env H S R he hs h => ?_⟩
  refine s ρ σ env H S _ he hs ((OutE.bnd h).imp fun v H1 ⟨x, S1, ρ1, po, h1⟩ => ?_)
  obtain ⟨src, hsrc, h2⟩ := OutG.ofS h1
  cases x with
  | t o => cases hsrc
  | v x =>
    cases x with
    | int j =>
      simp only [rangeR] at hsrc
      rw [po.rel.int]
      split at hsrc
      · rename_i hb
        cases hsrc
        unfold rngOk at hb
        simp only [Bool.and_eq_true, decide_eq_true_eq] at hb
        exact ⟨_, rfl, hb.1, hb.2, h2 ρ1 H1 Ext.refl po.sto _ yd_range⟩
      · cases hsrc
    | non => cases hsrc
    | bl _ => cases hsrc
    | str _ => cases hsrc
    | tup _ => cases hsrc
    | fls _ => cases hsrc
    | ref _ => cases hsrc
theorem yd_revr {K : PySem.W.Frag} {ρ0 : List Addr} {H0 : Hp} {n : Nat} : Yd K ρ0 H0 ⟨(rngL 0 n).reverse, []⟩ (Itc ((n : Int) - 1) (-1) n) := by
  intro ρ H S e R hl i
  show (∀ z, (rngL 0 n).reverse[i]? = some z → _) ∧ ((rngL 0 n).reverse[i]? = none → _)
  have hlen : (rngL 0 n).length = n := by simp [rngL]
  by_cases hi : i < n
  · rw [List.getElem?_reverse (by rw [hlen]; exact hi), hlen, rngL_get, if_pos (by omega)]
    refine ⟨fun z hz => ?_, fun hn => by cases hn⟩
    cases hz
    refine ⟨hi, fun x H' ⟨e1, e2⟩ => ?_⟩
    subst e1 e2
    have : (n : Int) - 1 + (i : Nat) * (-1) = 0 + ((n - 1 - i : Nat) : Int) := by omega
    rw [this]
    exact ⟨Ext.refl, R, .int _⟩
  · rw [List.getElem?_eq_none (by rw [List.length_reverse, hlen]; omega)]
    refine ⟨fun z hz => ?_, fun _ => Nat.le_of_not_lt hi⟩
    cases hz
theorem SI.rvr {tg : Expr} {p1 p2 pos2 : Pos} (g : Gd X G T W) (ha : SE X T W a a') (hn : notStar a = true) (hg : glB X.env.scope "range" = true) (hg2 : glB X.env.scope "reversed" = true) : SI X T W tg (.Call (.Name "reversed" p2) [.Call (.Name "range" p1) [a] [] pos] [] pos2) (.rvr a') := by
  obtain ⟨t, p, s⟩ := ha
  refine ⟨_, pi_revR (gl_of hg2) (g.blt _ (by decide +kernel)) (prg_1 (gl_of hg) (g.blt _ (by decide +kernel)) p (star1 _ hn)) rfl, fun ρ σ env H S R he hs h => ?_⟩
  refine s ρ σ env H S _ he hs ((OutE.bnd h).imp fun v H1 ⟨x, S1, ρ1, po, h1⟩ => ?_)
  obtain ⟨src, hsrc, h2⟩ := OutG.ofS (OutG.bnd h1)
  cases x with
  | t o => cases hsrc
  | v x =>
    cases x with
    | int j =>
      simp only [rangeR] at hsrc
      rw [po.rel.int]
      split at hsrc
      · rename_i hb
        cases hsrc
        unfold rngOk at hb
        simp only [Bool.and_eq_true, decide_eq_true_eq] at hb
        have h3 := h2 ρ1 H1 Ext.refl po.sto
        refine ⟨j, rfl, by decide, by decide, hb.1, hb.2, ?_⟩
        have e1 : (0 : Int) + (((j - 0).toNat : Nat) : Int) - 1 = ((j.toNat : Nat) : Int) - 1 := by simp
        have e2 : (j - 0).toNat = j.toNat := by simp
        rw [e1, e2]
        exact h3 ρ1 H1 Ext.refl po.sto _ yd_revr
      · cases hsrc
    | non => cases hsrc
    | bl _ => cases hsrc
    | str _ => cases hsrc
    | tup _ => cases hsrc
    | fls _ => cases hsrc
    | ref _ => cases hsrc
theorem SI.range2 {tg : Expr} {p1 : Pos} (g : Gd X G T W) (ha : SE X T W a a') (hb : SE X T W b b') (hn : notStar a = true) (hn2 : notStar b = true) (hg : glB X.env.scope "range" = true) : SI X T W tg (.Call (.Name "range" p1) [a, b] [] pos) (.rg2 a' b') := by
  obtain ⟨t, p, s⟩ := ha
  obtain ⟨t2, p2, s2⟩ := hb
  refine ⟨_, pi_range2 (gl_of hg) (g.blt _ (by decide +kernel)) (pa_cons p (pa_cons p2 pa_nil (star_cons _ hn2)) (star_cons _ hn)) (star2 _ hn hn2) (star1 _ hn2), fun ρ σ env H S R he hs h => ?_⟩
  refine s ρ σ env H S _ he hs ((OutE.bnd h).imp fun v H1 ⟨x, S1, ρ1, po, h1⟩ => ?_)
  refine s2 ρ1 σ env H1 S1 _ (he.ext hs po.ext) po.sto ((OutE.bnd h1).imp fun w H2 ⟨y, S2, ρ2, po2, h2⟩ => ?_)
  obtain ⟨src, hsrc, h3⟩ := OutG.ofS h2
  have hx := po.rel.ext po.sto po2.ext
  unfold rangeR at hsrc
  split at hsrc
  · rename_i heq
    cases heq
  · rename_i heq
    cases heq
    rw [hx.int, po2.rel.int]
    split at hsrc
    · rename_i hb
      cases hsrc
      unfold rngOk at hb
      simp only [Bool.and_eq_true, decide_eq_true_eq] at hb
      exact ⟨_, _, rfl, ⟨hb.1.1, hb.1.2, hb.2.1, hb.2.2⟩, h3 ρ2 H2 Ext.refl po2.sto _ yd_range⟩
    · cases hsrc
  · cases hsrc
theorem ite_some {α : Type} {c : Bool} {o : Option α} {x : α} (h : (if c = true then o else none) = some x) : c = true ∧ o = some x := by
  split at h
  · exact ⟨by assumption, h⟩
  · cases h
theorem isTup_v {x : Rv} (h : isTup x = true) : ∃ xs, x = .v (.tup xs) := by
  cases x with
  | v x => cases x <;> first | exact ⟨_, rfl⟩ | cases h
  | t o => cases h
theorem SI.enum {elts : List Expr} {kk : Nat} {tpos p1 : Pos} (g : Gd X G T W) (ha : SE X T W a a') (hn : notStar a = true) (hg : glB X.env.scope "enumerate" = true) : SI X T W (.Tuple elts kk tpos) (.Call (.Name "enumerate" p1) [a] [] pos) (.enum a') := by
  obtain ⟨t, p, s⟩ := ha
  refine ⟨_, pi_enumB (gl_of hg) (g.blt _ (by decide +kernel)) (pa_cons p pa_nil (star_cons _ hn)) (star1 _ hn), fun ρ σ env H S R he hs h => ?_⟩
  refine s ρ σ env H S _ he hs ((OutE.bnd h).imp fun v H1 ⟨x, S1, ρ1, po, h1⟩ => ?_)
  obtain ⟨src, hsrc, h2⟩ := OutG.ofS (S := S1) (OutG.bnd h1)
  obtain ⟨hl, hs2⟩ := ite_some hsrc
  by_cases ht : isTup x = true
  · obtain ⟨xs, rfl⟩ := isTup_v ht
    cases hs2
    obtain ⟨ad, rfl, hrd⟩ := rdT_of po.sto po.rel
    obtain ⟨vs, hsq, _⟩ := hrd ρ1 H1 S1 Ext.refl po.sto
    exact .inr ⟨ad, vs, rfl, hsq, h2 ρ1 H1 Ext.refl po.sto ρ1 H1 Ext.refl po.sto _ (yd_enumT hrd)⟩
  · simp only [ht, Bool.or_false] at hl
    obtain ⟨ad, rfl, hrd, vs, hsq⟩ := rdL_of po.sto po.rel hl hs2
    exact .inl ⟨ad, vs, rfl, hsq, h2 ρ1 H1 Ext.refl po.sto ρ1 H1 Ext.refl po.sto _ (yd_enum hrd)⟩
theorem SI.zip {elts : List Expr} {kk : Nat} {tpos p1 : Pos} (g : Gd X G T W) (ha : SE X T W a a') (hb : SE X T W b b') (hn : notStar a = true) (hn2 : notStar b = true) (hg : glB X.env.scope "zip" = true) : SI X T W (.Tuple elts kk tpos) (.Call (.Name "zip" p1) [a, b] [] pos) (.zip a' b') := by
  obtain ⟨t, p, s⟩ := ha
  obtain ⟨t2, p2, s2⟩ := hb
  refine ⟨_, RZ.pi_zipA (gl_of hg) (g.blt _ (by decide +kernel)) (pa_cons p (pa_cons p2 pa_nil (star_cons _ hn2)) (star_cons _ hn)) (star_cons _ hn) (star_plain _ _ (by simpa using hn2)), fun ρ σ env H S R he hs h => ?_⟩
  refine s ρ σ env H S _ he hs ((OutE.bnd h).imp fun v H1 ⟨x, S1, ρ1, po, h1⟩ => ?_)
  refine s2 ρ1 σ env H1 S1 _ (he.ext hs po.ext) po.sto ((OutE.bnd h1).imp fun w H2 ⟨y, S2, ρ2, po2, h2⟩ => ?_)
  obtain ⟨s1, hs1, h3⟩ := OutG.ofS (S := S2) (OutG.bnd h2)
  obtain ⟨hk, hs1⟩ := ite_some hs1
  have h4 := h3 ρ2 H2 Ext.refl po2.sto
  obtain ⟨s2', hs2, h5⟩ := OutG.ofS (S := S2) (OutG.bnd h4)
  have h6 := h5 ρ2 H2 Ext.refl po2.sto
  have hx := po.rel.ext po.sto po2.ext
  simp only [Bool.or_eq_true, Bool.and_eq_true] at hk
  rcases hk with ⟨k1, k2⟩ | ⟨k1, k2⟩
  · unfold isTup at k1 k2
    split at k1
    · split at k2
      · cases hs1
        cases hs2
        obtain ⟨ad, rfl, hrd⟩ := rdT_of po2.sto hx
        obtain ⟨bd, rfl, hrd2⟩ := rdT_of po2.sto po2.rel
        obtain ⟨vs, g1, _⟩ := hrd ρ2 H2 S2 Ext.refl po2.sto
        obtain ⟨ws, g2, _⟩ := hrd2 ρ2 H2 S2 Ext.refl po2.sto
        exact ⟨ad, bd, vs, ws, rfl, .inr ⟨g1, g2, h6 ρ2 H2 Ext.refl po2.sto _ (yd_zipT (s := ⟨_, []⟩) (s' := ⟨_, []⟩) hrd hrd2 _)⟩⟩
      · cases k2
    · cases k1
  · obtain ⟨ad, rfl, hrd, vs, g1⟩ := rdL_of po2.sto hx k1 hs1
    obtain ⟨bd, rfl, hrd2, ws, g2⟩ := rdL_of po2.sto po2.rel k2 hs2
    exact ⟨ad, bd, vs, ws, rfl, .inl ⟨g1, g2, h6 ρ2 H2 Ext.refl po2.sto _ (yd_zip hrd hrd2)⟩⟩
theorem yd_rev {K : PySem.W.Frag} {ρ0 : List Addr} {H0 : Hp} {ad : Addr} {src : Src} (h : RdL K ρ0 H0 ad src.items src.live) : Yd K ρ0 H0 ⟨src.items.reverse, src.live⟩ (Itv K ad src.items.length) := by
  intro ρ H S e R hl i
  obtain ⟨vs, h1, r1⟩ := h ρ H S e R hl
  refine ⟨fun z hz => ?_, fun hn => ?_⟩
  · have hi : i < src.items.length := by
      have := (List.getElem?_eq_some_iff.mp hz).1
      simpa using this
    have hz' : src.items[src.items.length - 1 - i]? = some z := by
      have e1 : src.items.reverse[i]? = some z := hz
      rw [List.getElem?_reverse hi] at e1
      exact e1
    obtain ⟨v, h2, h3⟩ := r1.get hz'
    refine ⟨⟨hi, vs, v, h1, h2⟩, fun x H' ⟨hH, hy⟩ => ?_⟩
    subst hH
    have := hy vs h1
    rw [h2] at this
    cases this
    exact ⟨Ext.refl, R, h3⟩
  · have := List.getElem?_eq_none_iff.mp hn
    rw [List.length_reverse] at this
    exact this
theorem SI.rv {tg : Expr} {p1 : Pos} (g : Gd X G T W) (ha : SE X T W a a') (hn : notStar a = true) (hg : glB X.env.scope "reversed" = true) : SI X T W tg (.Call (.Name "reversed" p1) [a] [] pos) (.rv a') := by
  obtain ⟨t, p, s⟩ := ha
  refine ⟨_, pi_reversed (gl_of hg) (g.blt _ (by decide +kernel)) (pa_cons p pa_nil (star_cons _ hn)) (star1 _ hn), fun ρ σ env H S R he hs h => ?_⟩
  refine s ρ σ env H S _ he hs ((OutE.bnd h).imp fun v H1 ⟨x, S1, ρ1, po, h1⟩ => ?_)
  obtain ⟨src, hsrc, h2⟩ := OutG.ofS (S := S1) (OutG.bnd h1)
  obtain ⟨hl, hs2⟩ := ite_some hsrc
  obtain ⟨ad, rfl, hrd, vs0, hsq0⟩ := rdL_of po.sto po.rel hl hs2
  have hlive : liveOk S1 src.live := by
    unfold srcOf at hs2
    split at hs2 <;> first | (cases hs2; trivial) | skip
    · split at hs2
      · rename_i hx
        cases hs2
        exact ⟨hx, trivial⟩
      · cases hs2
    · cases hs2
  obtain ⟨vs, hsq, r1⟩ := hrd ρ1 H1 S1 Ext.refl po.sto hlive
  refine ⟨ad, vs, rfl, hsq, ?_⟩
  rw [r1.length]
  exact h2 ρ1 H1 Ext.refl po.sto ρ1 H1 Ext.refl po.sto _ (yd_rev hrd)

/-! ### targets -/
mutual
def tgSl : Tg → List Nat
  | .n i => [i]
  | .t ts => tgSls ts
def tgSls : List Tg → List Nat
  | [] => []
  | t :: ts => tgSl t ++ tgSls ts
end
/-- two rows of slots that differ at most at l -/
def Off (l : List Nat) (σ σ' : St) : Prop := σ'.length = σ.length ∧ ∀ j : Nat, j ∉ l → σ'[j]? = σ[j]?
def SG (X : Cx) (tg : Expr) (t : Tg) : Prop := ∃ g, PG X tg g ∧ ∀ ρ σ env env' H S v x Q, RE X.K ρ H σ env → RS X.K ρ H S → RV X.K ρ H v x → asgT t x env = some env' → (∀ σ', RE X.K ρ H σ' env' → Off (tgSl t) σ σ' → Q σ' H) → g v σ H Q
def SGs (X : Cx) (tg : List Expr) (t : List Tg) : Prop := ∃ g, PGs X tg g ∧ ∀ ρ σ env env' H S vs xs Q, RE X.K ρ H σ env → RS X.K ρ H S → RVs X.K ρ H vs xs → asgTs t xs env = some env' → (∀ σ', RE X.K ρ H σ' env' → Off (tgSls t) σ σ' → Q σ' H) → g vs σ H Q
theorem RE.set {K : PySem.W.Frag} {ρ : List Addr} {H : Hp} {σ : St} {env : Env} {i : Nat} {v : V} {x : Val} (h : RE K ρ H σ env) (r : RV K ρ H v x) : RE K ρ H (σ.set i (some v)) (env.set i (some x)) := by
  refine ⟨by rw [List.length_set, List.length_set]; exact h.len, fun j y hy => ?_⟩
  by_cases hj : j = i
  · subst hj
    have hlt : j < env.length := by
      have := (List.getElem?_eq_some_iff.mp hy).1
      rwa [List.length_set] at this
    rw [List.getElem?_set_self hlt] at hy
    cases hy
    exact ⟨v, by rw [List.getElem?_set_self (by rw [h.len]; exact hlt)], r⟩
  · rw [List.getElem?_set_ne (Ne.symm hj)] at hy
    obtain ⟨w, h1, h2⟩ := h.at' j y hy
    exact ⟨w, by rw [List.getElem?_set_ne (Ne.symm hj)]; exact h1, h2⟩
def locB (sc : Scope) (x : Str) : Bool := match sc.names.lookup x with
  | some .local => true
  | some .cell => true
  | _ => false
theorem loc_of {sc : Scope} {x : Str} (h : locB sc x = true) : Loc sc x := by
  unfold locB at h
  split at h <;> first | exact .inl (by assumption) | exact .inr (by assumption) | cases h
theorem SG.name {i : Nat} {x : Str} (hN : X.N.Nodup) (hi : X.N[i]? = some x) (hx : locB X.env.scope x = true) (hf : X.fn x = true ∨ X.env.scope.names.lookup x = some .local) : SG X (.Name x pos) (.n i) := by
  refine ⟨_, pg_name hN hi (loc_of hx) hf, fun ρ σ env env' H S v y Q he hs hv h k => ?_⟩
  cases h
  refine k _ (he.set hv) ⟨by rw [List.length_set], fun j hj => ?_⟩
  rw [List.getElem?_set_ne]
  intro e
  exact hj (by simp [tgSl, e])
theorem SGs.nil : SGs X [] [] := by
  refine ⟨_, pgs_nil, fun ρ σ env env' H S vs xs Q he hs hv h k => ?_⟩
  cases hv with
  | nil =>
    cases h
    exact ⟨rfl, k σ he ⟨rfl, fun _ _ => rfl⟩⟩
  | cons _ _ => cases h
theorem assign_cons (env : PySem.Env) {e : Expr} {es : List Expr} (h : notStar e = true) : (assignEach (e :: es) env).map (·.2) = assign e env :: (assignEach es env).map (·.2) := by
  cases e <;> first | rfl | exact Bool.noConfusion h
theorem assign_len (env : PySem.Env) : ∀ {es : List Expr}, (assignEach es env).length = es.length
  | [] => rfl
  | e :: es => by
    have := assign_len env (es := es)
    cases e <;> simp [assignEach, this]
theorem assign_star (env : PySem.Env) : ∀ {es : List Expr}, es.all notStar = true → (assignEach es env).findIdx? (·.1) = none
  | [], _ => rfl
  | e :: es, h => by
    simp only [List.all_cons, Bool.and_eq_true] at h
    have := assign_star env h.2
    have e2 : assignEach (e :: es) env = (false, assign e env) :: assignEach es env := by
      cases e <;> first | rfl | exact Bool.noConfusion h.1
    rw [e2, List.findIdx?_cons, this]
    rfl
theorem SGs.cons {t : Tg} {ts : List Tg} (h1 : SG X e t) (h2 : SGs X es ts) (hn : notStar e = true) : SGs X (e :: es) (t :: ts) := by
  obtain ⟨g1, p1, s1⟩ := h1
  obtain ⟨g2, p2, s2⟩ := h2
  refine ⟨_, pgs_cons p1 p2 (assign_cons _ hn), fun ρ σ env env' H S vs xs Q he hs hv h k => ?_⟩
  cases hv with
  | nil => cases h
  | cons hv hvs =>
    simp only [asgTs] at h
    cases q : asgT t _ env with
    | none => rw [q] at h; cases h
    | some env1 =>
      rw [q] at h
      refine ⟨_, _, rfl, s1 ρ σ env env1 H S _ _ _ he hs hv q fun σ1 he1 o1 => ?_⟩
      refine s2 ρ σ1 env1 env' H S _ _ _ he1 hs hvs h fun σ2 he2 o2 => ?_
      refine k σ2 he2 ⟨o2.1.trans o1.1, fun j hj => ?_⟩
      simp only [tgSls, List.mem_append, not_or] at hj
      exact (o2.2 j hj.2).trans (o1.2 j hj.1)
theorem SG.tup {ts : List Tg} {k : Nat} (hc : X.calm = true) (h : SGs X es ts) (hn : es.all notStar = true) (hl : ts.length = es.length) : SG X (.Tuple es k pos) (.t ts) := by
  obtain ⟨g, p, s⟩ := h
  refine ⟨_, pg_tup hc p (assign_len _) (assign_star _ hn), fun ρ σ env env' H S v x Q he hs hv h k => ?_⟩
  cases hv with
  | tup h1 r1 =>
    rename_i ad vs xs
    refine ⟨ad, vs, rfl, h1, ?_, s ρ σ env env' H S vs xs Q he hs r1 h k⟩
    rw [r1.length, ← hl]
    have : ∀ (ts : List Tg) (xs : List Val) (env env' : Env), asgTs ts xs env = some env' → xs.length = ts.length := by
      intro ts
      induction ts with
      | nil => intro xs env env' h; cases xs with
        | nil => rfl
        | cons _ _ => cases h
      | cons t ts ih => intro xs env env' h; cases xs with
        | nil => cases h
        | cons x xs =>
          simp only [asgTs] at h
          cases q : asgT t x env with
          | none => rw [q] at h; cases h
          | some env1 => rw [q] at h; rw [List.length_cons, List.length_cons, ih xs env1 env' h]
    exact this ts xs env env' h
  | non => cases h
  | bl _ => cases h
  | int _ => cases h
  | str _ => cases h
  | fls _ _ => cases h
  | ref _ => cases h
/-- either reading of a target -/
theorem pg_or {g1 g2 : TG} (h1 : PG X e g1) (h2 : PG X e g2) : PG X e (fun v σ H Q => g1 v σ H Q ∨ g2 v σ H Q) := by
  refine ⟨fun pins st σ H v u Q I r h => ?_⟩
  rcases h with h | h
  · exact h1.run pins st σ H v u Q I r h
  · exact h2.run pins st σ H v u Q I r h
theorem asgTs_length : ∀ (ts : List Tg) (xs : List Val) (env env' : Env), asgTs ts xs env = some env' → xs.length = ts.length
  | [], [], _, _, _ => rfl
  | [], _ :: _, _, _, h => by cases h
  | _ :: _, [], _, _, h => by cases h
  | t :: ts, x :: xs, env, env', h => by
    simp only [asgTs] at h
    cases q : asgT t x env with
    | none => rw [q] at h; cases h
    | some env1 => rw [q] at h; rw [List.length_cons, List.length_cons, asgTs_length ts xs env1 env' h]
/-- a target that takes a new list too -/
def SGL (X : Cx) (tg : Expr) (t : Tg) : Prop := ∃ g, PG X tg g ∧ (∀ ρ σ env env' H S v x Q, RE X.K ρ H σ env → RS X.K ρ H S → RV X.K ρ H v x → asgT t x env = some env' → (∀ σ', RE X.K ρ H σ' env' → Q σ' H) → g v σ H Q) ∧
  ∀ ρ σ env env' H S v xs Q, RE X.K ρ H σ env → RS X.K ρ H S → (∃ a vs, v = .ref a ∧ H a = some (.lst vs) ∧ RVs X.K ρ H vs xs) → asgL t xs env = some env' → (∀ σ', RE X.K ρ H σ' env' → Q σ' H) → g v σ H Q
theorem SGL.tup {ts : List Tg} {k : Nat} (hc : X.calm = true) (h : SGs X es ts) (hn : es.all notStar = true) (hl : ts.length = es.length) : SGL X (.Tuple es k pos) (.t ts) := by
  obtain ⟨g0, p0, s0⟩ := SG.tup (pos := pos) (k := k) hc h hn hl
  obtain ⟨g, p, s⟩ := h
  refine ⟨_, pg_or p0 (pg_lst hc p (assign_len _) (assign_star _ hn)), fun ρ σ env env' H S v x Q he hs hv h k => ?_, fun ρ σ env env' H S v xs Q he hs hv h k => ?_⟩
  · exact .inl (s0 ρ σ env env' H S v x Q he hs hv h fun σ' a _ => k σ' a)
  · obtain ⟨a, vs, rfl, h1, r1⟩ := hv
    exact .inr ⟨a, vs, rfl, .of h1, by rw [r1.length, ← hl]; exact asgTs_length ts xs env env' h, s ρ σ env env' H S vs xs Q he hs r1 h fun σ' a _ => k σ' a⟩

/-! ### comprehensions -/
theorem wipe_get (σ : St) : ∀ (vs : List Nat) (j : Nat), (wipe σ vs)[j]? = if j ∈ vs ∧ j < σ.length then some none else σ[j]?
  | [], j => by simp [wipe]
  | v :: vs, j => by
    unfold wipe
    by_cases hj : j = v
    · subst hj
      by_cases hl : j < σ.length
      · rw [List.getElem?_set_self (by rw [wipe_length]; exact hl), if_pos ⟨List.mem_cons_self, hl⟩]
      · rw [List.getElem?_eq_none (by rw [List.length_set, wipe_length]; omega), if_neg (fun z => hl z.2), List.getElem?_eq_none (by omega)]
    · rw [List.getElem?_set_ne (Ne.symm hj), wipe_get σ vs j]
      have : (j ∈ v :: vs ∧ j < σ.length) ↔ (j ∈ vs ∧ j < σ.length) := by simp [hj]
      simp only [this]
theorem wipe_off {σ σ' : St} {l vs : List Nat} (h : Off l (wipe σ vs) σ') (hl : ∀ j ∈ l, j ∈ vs) : wipe σ' vs = wipe σ vs := by
  apply List.ext_getElem?
  intro j
  have hlen : σ'.length = σ.length := h.1.trans (wipe_length σ vs)
  rw [wipe_get, wipe_get, hlen]
  by_cases hj : j ∈ vs
  · by_cases hlt : j < σ.length
    · rw [if_pos ⟨hj, hlt⟩, if_pos ⟨hj, hlt⟩]
    · rw [if_neg (fun z => hlt z.2), if_neg (fun z => hlt z.2), List.getElem?_eq_none (by omega), List.getElem?_eq_none (by omega)]
  · rw [if_neg (fun z => hj z.1), if_neg (fun z => hj z.1), h.2 j (fun z => hj (hl j z)), wipe_get, if_neg (fun z => hj z.1)]
theorem wipeE_get (σ : Env) : ∀ (vs : List Nat) (j : Nat), (wipeE σ vs)[j]? = if j ∈ vs ∧ j < σ.length then some none else σ[j]?
  | [], j => by simp [wipeE]
  | v :: vs, j => by
    have wl : ∀ vs : List Nat, (wipeE σ vs).length = σ.length := by
      intro vs
      induction vs with
      | nil => rfl
      | cons v vs ih => simp [wipeE, ih]
    unfold wipeE
    by_cases hj : j = v
    · subst hj
      by_cases hl : j < σ.length
      · rw [List.getElem?_set_self (by rw [wl]; exact hl), if_pos ⟨List.mem_cons_self, hl⟩]
      · rw [List.getElem?_eq_none (by rw [List.length_set, wl]; omega), if_neg (fun z => hl z.2), List.getElem?_eq_none (by omega)]
    · rw [List.getElem?_set_ne (Ne.symm hj), wipeE_get σ vs j]
      have : (j ∈ v :: vs ∧ j < σ.length) ↔ (j ∈ vs ∧ j < σ.length) := by simp [hj]
      simp only [this]
theorem RE.wipe {K : PySem.W.Frag} {ρ : List Addr} {H : Hp} {σ : St} {env : Env} (h : RE K ρ H σ env) (vs : List Nat) : RE K ρ H (L2.wipe σ vs) (wipeE env vs) := by
  have wl : ∀ vs : List Nat, (wipeE env vs).length = env.length := by
    intro vs
    induction vs with
    | nil => rfl
    | cons v vs ih => simp [wipeE, ih]
  refine ⟨by rw [wipe_length, wl]; exact h.len, fun i x hx => ?_⟩
  rw [wipeE_get] at hx
  split at hx
  · cases hx
  · rename_i hn
    obtain ⟨v, h1, h2⟩ := h.at' i x hx
    refine ⟨v, ?_, h2⟩
    rw [wipe_get, if_neg (by rw [h.len]; exact hn)]
    exact h1
end
end Fe

/-! Fe8: comprehensions, statements -/
namespace Fe
open PySem L2
section
variable {K : PySem.W.Frag} {ρ ρ' ρ1 : List Addr} {H H' H1 : Hp} {S S' : Sto} {D : Addr} {vs ws : List V}
theorem SqT.re {a : Addr} {us : List V} (hD : H D = some (.lst vs)) (h : SqT K H a us) : SqT K (upd H D (.lst ws)) a us := by
  rcases h with (h | ⟨o, h⟩) | h
  · exact .inl (.inl (by rw [upd_ne (ne_of h hD (by intro z; cases z))]; exact h))
  · exact .inl (.inr ⟨o, by rw [upd_ne (ne_of h hD (by intro z; cases z))]; exact h⟩)
  · exact .inr h
theorem SqF.re {a : Addr} {us : List V} (hD : H D = some (.lst vs)) (h : SqF K H a us) : SqF K (upd H D (.lst ws)) a us := by
  rcases h with ⟨o, h⟩ | h
  · exact .inl ⟨o, by rw [upd_ne (ne_of h hD (by intro z; cases z))]; exact h⟩
  · exact .inr h
mutual
theorem RV.re (hD : H D = some (.lst vs)) : ∀ {v : V} {x : Val}, RV K ρ H v x → RV K ρ (upd H D (.lst ws)) v x
  | _, _, .non => .non
  | _, _, .bl b => .bl b
  | _, _, .int b => .int b
  | _, _, .str b => .str b
  | _, _, .tup h r => .tup (SqT.re hD h) (RVs.re hD r)
  | _, _, .fls h r => .fls (SqF.re hD h) (RVs.re hD r)
  | _, _, .ref h => .ref h
theorem RVs.re (hD : H D = some (.lst vs)) : ∀ {v : List V} {x : List Val}, RVs K ρ H v x → RVs K ρ (upd H D (.lst ws)) v x
  | _, _, .nil => .nil
  | _, _, .cons h r => .cons (RV.re hD h) (RVs.re hD r)
end
theorem RKV.re (hD : H D = some (.lst vs)) {ks : List (Key × V)} {kvs : List (Val × Val)} (h : RKV K ρ H ks kvs) : RKV K ρ (upd H D (.lst ws)) ks kvs := by
  induction h with
  | nil => exact .nil
  | cons h1 h2 _ ih => exact .cons h1 (h2.re hD) ih
theorem RO.re (hD : H D = some (.lst vs)) {a : Addr} {o : Ob} (ne : a ≠ D) (h : RO K ρ H a o) : RO K ρ (upd H D (.lst ws)) a o := by
  cases o with
  | lst xs => obtain ⟨us, h1, h2⟩ := h; exact ⟨us, by rw [upd_ne ne]; exact h1, h2.re hD⟩
  | dic kvs => obtain ⟨us, h1, h2⟩ := h; exact ⟨us, by rw [upd_ne ne]; exact h1, h2.re hD⟩
  | ins c fs => exact h.elim
theorem RS.re (hD : H D = some (.lst vs)) (n : D ∉ ρ) (R : RS K ρ H S) : RS K ρ (upd H D (.lst ws)) S :=
  ⟨R.len, R.nd, fun l a o h1 h2 => (R.at' l a o h1 h2).re hD fun e => n (by rw [← e]; exact List.mem_of_getElem? h1)⟩
/-- a list that was not there at the start is changed -/
theorem Ext.re (h0 : H1 D = none) (e : Ext ρ1 H1 ρ H) : Ext ρ1 H1 ρ (upd H D (.lst ws)) :=
  ⟨e.more, fun a o h n => by rw [upd_ne (ne_of_none h h0)]; exact e.keep a o h n, fun a h => by
    by_cases q : a = D
    · rw [q]; exact h0
    · rw [upd_ne q] at h; exact e.dom a h⟩
end
section
variable {X : Cx} {T : Fns} {W : WX} {G : Glb} {pos : Pos} {e a b c o : Expr} {a' b' c' o' : E} {es rest : List Expr} {es' : Es}
/-- the block of a comprehension -/
abbrev Blk (X : Cx) (scope : Scope) (s : Shared) (H : Hp) (C : Addr) (cl : List (Str × Addr)) (fp : List Addr) : Cx := X.blk s H scope (compEnvC scope cl C X.env) fp
abbrev W0 : WX := fun _ _ _ _ => False
theorem lc_snd {wi : TI} {g : TG} {tt : TT} {te : TE} {own : List Nat} {tg : Tg} {it' : Fe.It} {ifs' : Eo} {elt' : E}
    (si : ∀ ρ σ env H S R, RE X.K ρ H σ env → RS X.K ρ H S → OutG (fun src ρ' H' _ => ∀ J, Yd X.K ρ' H' src J → R J H') X.K ρ H (wAt W σ) (evI T it' env S) → wi σ H R)
    (sg : ∀ ρ σ env env' H S v x Q, RE X.K ρ H σ env → RS X.K ρ H S → RV X.K ρ H v x → asgT tg x env = some env' → (∀ σ', RE X.K ρ H σ' env' → Off (tgSl tg) σ σ' → Q σ' H) → g v σ H Q)
    (st : ∀ ρ σ env H S Q, RE X.K ρ H σ env → RS X.K ρ H S → OutT X.K ρ H (wAt W0 σ) Q (evC T ifs' env S) → tt σ H Q)
    (se : ∀ ρ σ env H S Q, RE X.K ρ H σ env → RS X.K ρ H S → OutE X.K ρ H (wAt W0 σ) Q (evE T elt' env S) → te σ H Q)
    (hsl : ∀ j ∈ tgSl tg, j ∈ own) : ∀ ρ σ env H S Q, RE X.K ρ H σ env → RS X.K ρ H S → OutE X.K ρ H (wAt W σ) Q (evE T (.comp own tg it' ifs' elt') env S) → tLc wi g tt te own σ H Q := by
  intro ρ0 σ env H0 S0 Q he hs h
  refine si ρ0 σ env H0 S0 _ he hs (OutG.imp (OutG.toE0 h) fun src ρ1 H1 S1 _ e1 R1 q J hJ => ?_)
  split at q
  case isFalse => exact q.elim
  case isTrue hz =>
  intro D hD
  have hD0 : H0 D = none := e1.dom D hD
  let wl := own
  refine ⟨fun i m H => ∃ ρ S acc vs, m + i = src.items.length ∧ Ext ρ1 H1 ρ H ∧ RS X.K ρ H S ∧ H D = some (.lst vs) ∧ RVs X.K ρ H vs acc ∧ acc.length ≤ i ∧ D ∉ ρ ∧
    OutE X.K ρ0 H0 (wAt W σ) Q (compL (evC T ifs') (evE T elt') tg (wipeE env wl) src.live (src.items.drop i) acc S).nox, ⟨src.items.length, ρ1, S1, [], [], by omega, Ext.new hD, R1.new hD, upd_same, .nil, Nat.le_refl _, R1.notin_none hD, q⟩, ?_⟩
  rintro i m H ⟨ρ, S, acc, vs, hm, ex, R, hDv, rv, hacc, nD, hq⟩
  by_cases hlive : liveOk S src.live
  case neg =>
    exfalso
    cases hdr : src.items.drop i with
    | nil =>
      rw [hdr] at hq
      simp only [compL, guardL, if_neg hlive] at hq
      exact hq
    | cons x r =>
      rw [hdr] at hq
      simp only [compL, guardL, if_neg hlive] at hq
      exact hq
  case pos =>
  obtain ⟨yg, ys⟩ := hJ ρ H S ex R hlive i
  cases hdr : src.items.drop i with
  | nil =>
    rw [hdr] at hq
    simp only [compL, guardL_pos _ hlive] at hq
    have hn : src.items[i]? = none := List.getElem?_eq_none (List.drop_eq_nil_iff.mp hdr)
    refine .inl ⟨ys hn, ?_⟩
    exact hq ρ H (e1.trans ex) R (.ref D) ⟨D, rfl, nD, vs, hDv, rv⟩ fun o p _ e => by
      cases e
      exact hD0
  | cons z r =>
    have hi : i < src.items.length := by
      have := congrArg List.length hdr
      rw [List.length_drop, List.length_cons] at this
      omega
    have hz1 : src.items[i]? = some z := by
      have : (src.items.drop i)[0]? = some z := by rw [hdr]; rfl
      rwa [List.getElem?_drop, Nat.add_zero] at this
    have hr : src.items.drop (i + 1) = r := by
      rw [← List.drop_drop, hdr]
      rfl
    obtain ⟨go, yl⟩ := yg z hz1
    rw [hdr] at hq
    simp only [compL, guardL_pos _ hlive] at hq
    refine .inr ⟨go, fun H' => ∃ ρ S acc vs, Ext ρ1 H1 ρ H' ∧ RS X.K ρ H' S ∧ H' D = some (.lst vs) ∧ RVs X.K ρ H' vs acc ∧ acc.length ≤ i + 1 ∧ D ∉ ρ ∧
      OutE X.K ρ0 H0 (wAt W σ) Q (compL (evC T ifs') (evE T elt') tg (wipeE env wl) src.live r acc S).nox, fun H' ⟨ρ', S', acc', vs', h1, h2, h3, h4, h5, h6, h7⟩ => ⟨m - 1, by omega, ρ', S', acc', vs', by omega, h1, h2, h3, h4, h5, h6, by rw [hr]; exact h7⟩, fun x H' hy => ?_⟩
    obtain ⟨ey, Ry, rvx⟩ := yl x H' hy
    have hD' : H' D = some (.lst vs) := ey.keep _ _ hDv nD
    cases ha : asgT tg z (wipeE env wl) with
    | none => rw [ha] at hq; exact hq.elim
    | some env1 =>
      rw [ha] at hq
      dsimp only at hq
      have hew : RE X.K ρ H' (L2.wipe σ wl) (wipeE env wl) := ((he.ext hs (e1.trans (ex.trans ey))).wipe wl)
      refine sg ρ (L2.wipe σ wl) (wipeE env wl) env1 H' S x z _ hew Ry rvx ha fun σ2 he2 off => ⟨wipe_off off hsl, ?_⟩
      refine st ρ σ2 env1 H' S _ he2 Ry ?_
      cases hc : evC T ifs' env1 S with
      | bad => rw [hc] at hq; exact hq.elim
      | exc x S2 => rw [hc] at hq; exact hq.elim
      | ok k S2 =>
        rw [hc, Res.bind_ok] at hq
        intro ρ3 H3 e3 R3
        have nD3 : D ∉ ρ3 := e3.notin hD' nD
        have hD3 : H3 D = some (.lst vs) := e3.keep _ _ hD' nD
        have rv3 : RVs X.K ρ3 H3 vs acc := (rv.ext R ey).ext Ry e3
        cases k with
        | false =>
          exact ⟨ρ3, S2, acc, vs, (ex.trans ey).trans e3, R3, hD3, rv3, by omega, nD3, hq⟩
        | true =>
          refine se ρ3 σ2 env1 H3 S2 _ (he2.ext Ry e3) R3 ?_
          cases hel : evE T elt' env1 S2 with
          | bad => simp only [if_true] at hq; rw [hel] at hq; exact hq.elim
          | exc x S4 => simp only [if_true] at hq; rw [hel] at hq; exact hq.elim
          | ok rr S4 =>
            simp only [if_true] at hq
            rw [hel, Res.bind_ok] at hq
            intro ρ4 H4 e4 R4 y hyr hnew
            have po : Post X.K ρ3 H3 y rr ρ4 H4 S4 := ⟨e4, hyr, R4, hnew⟩
            obtain ⟨ρ5, pv⟩ := po.lay
            have nD5 : D ∉ ρ5 := pv.ext.notin hD3 nD3
            have hD5 : H4 D = some (.lst vs) := pv.ext.keep _ _ hD3 nD3
            have rv5 : RVs X.K ρ5 H4 vs acc := rv3.ext R3 pv.ext
            refine ⟨vs, hD5, by rw [rv5.length]; exact Nat.lt_of_lt_of_le (by omega) hz, ρ5, (Fe.lay rr S4).2, acc ++ [(Fe.lay rr S4).1], vs ++ [y], ?_, pv.sto.re hD5 nD5, upd_same, RVs.re hD5 (rv5.append (.cons pv.rel .nil)), by rw [List.length_append]; simp; omega, nD5, hq⟩
            exact Ext.re hD (((ex.trans ey).trans e3).trans pv.ext)

/-! ### the readings that are told by the interpreter alone -/
def semE (K : PySem.W.Frag) (T : Fns) (W : WX) (e' : E) : TE := fun σ H Q => ∃ ρ env S, RE K ρ H σ env ∧ RS K ρ H S ∧ OutE K ρ H (wAt W σ) Q (evE T e' env S)
def semTs (K : PySem.W.Frag) (T : Fns) (W : WX) (e' : Eo) : TT := fun σ H Q => ∃ ρ env S, RE K ρ H σ env ∧ RS K ρ H S ∧ OutT K ρ H (wAt W σ) Q (evC T e' env S)
def semG (K : PySem.W.Frag) (t : Tg) : TG := fun v σ H Q => ∃ ρ env env' S x, RE K ρ H σ env ∧ RS K ρ H S ∧ RV K ρ H v x ∧ asgT t x env = some env' ∧ ∀ σ', RE K ρ H σ' env' → Off (tgSl t) σ σ' → Q σ' H
theorem SE.pe (h : SE X T W e a') : PE X e (semE X.K T W a') := by
  obtain ⟨t, p, s⟩ := h
  exact ⟨fun pins st σ H Q I ⟨ρ, env, S, h1, h2, h3⟩ => p.run pins st σ H Q I (s ρ σ env H S Q h1 h2 h3)⟩
theorem STs.pt {e' : Eo} (h : STs X T W es e') : PTs X es (semTs X.K T W e') := by
  obtain ⟨t, p, s⟩ := h
  exact ⟨fun pins st σ H Q I ⟨ρ, env, S, h1, h2, h3⟩ => p.run pins st σ H Q I (s ρ σ env H S Q h1 h2 h3)⟩
theorem SG.pg {t : Tg} (h : SG X e t) : PG X e (semG X.K t) := by
  obtain ⟨g, p, s⟩ := h
  exact ⟨fun pins st σ H v u Q I r ⟨ρ, env, env', S, x, h1, h2, h3, h4, h5⟩ => p.run pins st σ H v u Q I r (s ρ σ env env' H S v x Q h1 h2 h3 h4 h5)⟩
theorem STs.nil : STs X T W [] .none := ⟨_, pts_nil, fun ρ σ env H S Q he hs h => h ρ H Ext.refl hs⟩
theorem STs.one (h : ST X T W a a') : STs X T W [a] (.some a') := by
  obtain ⟨t, p, s⟩ := h
  exact ⟨_, pts_one p, s⟩
section
variable {elt tg iter : Expr} {ifs : List Expr} {scope : Scope} {own : List (Str × Nat)} {ow : List Nat} {tg' : Tg} {it' : Fe.It} {ifs' : Eo} {elt' : E}
theorem SE.comp (g : Gd X G T W) (hi : SI X T W tg iter it') (ok : blkC X.N X.env.scope scope own = true) (how : own.map (·.2) = ow) (hsl : ∀ j ∈ tgSl tg', j ∈ ow)
    (hg : ∀ (s : Shared) (H : Hp) (C : Addr) (cl : List (Str × Addr)) (fp : List Addr), SG (Blk X scope s H C cl fp) tg tg')
    (ht : ∀ (s : Shared) (H : Hp) (C : Addr) (cl : List (Str × Addr)) (fp : List Addr), STs (Blk X scope s H C cl fp) T W0 ifs ifs')
    (he : ∀ (s : Shared) (H : Hp) (C : Addr) (cl : List (Str × Addr)) (fp : List Addr), SE (Blk X scope s H C cl fp) T W0 elt elt')
    (hns : notSet iter = true) : SE X T W (.ListComp elt [⟨tg, iter, ifs, 0⟩] scope pos) (.comp ow tg' it' ifs' elt') := by
  subst how
  obtain ⟨wi, p, si⟩ := hi
  refine ⟨_, pe_lc (g := semG X.K tg') (tt := semTs X.K T W0 ifs') (te := semE X.K T W0 elt') g.calm g.nd p (blkOk_by ok) (fun s H C cl fp => (hg s H C cl fp).pg) (fun s H C cl fp => (ht s H C cl fp).pt) (fun s H C cl fp => (he s H C cl fp).pe) (folded_not hns), ?_⟩
  exact lc_snd si (fun ρ σ env env' H S v x Q h1 h2 h3 h4 h5 => ⟨ρ, env, env', S, x, h1, h2, h3, h4, h5⟩) (fun ρ σ env H S Q h1 h2 h3 => ⟨ρ, env, S, h1, h2, h3⟩) (fun ρ σ env H S Q h1 h2 h3 => ⟨ρ, env, S, h1, h2, h3⟩) hsl
end

/-! ### statements -/
def OutS (K : PySem.W.Frag) (ρ : List Addr) (H : Hp) (W : WX) (D : Ends) (r : SR) : Prop := match r with
  | .ok .nx env' S' => ∀ σ' ρ' H', Ext ρ H ρ' H' → RS K ρ' H' S' → RE K ρ' H' σ' env' → D.nx σ' H'
  | .ok .bk env' S' => ∀ σ' ρ' H', Ext ρ H ρ' H' → RS K ρ' H' S' → RE K ρ' H' σ' env' → D.bk σ' H'
  | .ok .ct env' S' => ∀ σ' ρ' H', Ext ρ H ρ' H' → RS K ρ' H' S' → RE K ρ' H' σ' env' → D.ct σ' H'
  | .ok (.rt r) _ S' => ∀ v ρ' H', Post K ρ H v r ρ' H' S' → D.rt v H'
  | .exc x env' S' => ∀ c d σ' ρ' H', PostX K ρ H c d x ρ' H' S' → RE K ρ' H' σ' env' → W c d σ' H'
  | .bad => False
theorem OutS.mono {K : PySem.W.Frag} {ρ ρ1 : List Addr} {H H1 : Hp} {D : Ends} {r : SR} (e : Ext ρ H ρ1 H1) (h : OutS K ρ H W D r) : OutS K ρ1 H1 W D r := by
  cases r with
  | ok f env' S' =>
    cases f with
    | nx => exact fun σ' ρ' H' e' R r => h σ' ρ' H' (e.trans e') R r
    | bk => exact fun σ' ρ' H' e' R r => h σ' ρ' H' (e.trans e') R r
    | ct => exact fun σ' ρ' H' e' R r => h σ' ρ' H' (e.trans e') R r
    | rt r => exact fun v ρ' H' p => h v ρ' H' ⟨e.trans p.ext, p.rel, p.sto, fun o a h1 h2 => e.dom a (p.new o a h1 h2)⟩
  | exc x env' S' => exact fun c d σ' ρ' H' p r => h c d σ' ρ' H' (p.mono e) r
  | bad => exact h
/-- an expression within a statement -/
theorem OutS.ofE {K : PySem.W.Frag} {ρ : List Addr} {H : Hp} {D : Ends} {r : Res Rv} {env : Env} {σ : St} {f : Rv → Sto → SR} {S0 : Sto} (he : RE K ρ H σ env) (hs : RS K ρ H S0) (h : OutS K ρ H W D (r.st env f)) :
    OutE K ρ H (wAt W σ) (fun v H1 => ∃ x S1 ρ1, Post K ρ H v x ρ1 H1 S1 ∧ OutS K ρ H W D (f x S1)) r := by
  cases r with
  | ok a S' => exact fun ρ' H' e R v hv hn => ⟨a, S', ρ', ⟨e, hv, R, hn⟩, h⟩
  | exc x S' => exact fun c d ρ' H' p => h c d σ ρ' H' p (he.ext hs p.1)
  | bad => exact h
theorem OutS.ofG {α : Type} {K : PySem.W.Frag} {ρ : List Addr} {H : Hp} {D : Ends} {r : Res α} {env : Env} {σ : St} {f : α → Sto → SR} {S0 : Sto} (he : RE K ρ H σ env) (hs : RS K ρ H S0) (h : OutS K ρ H W D (r.st env f)) :
    OutG (fun x ρ1 H1 S1 => OutS K ρ H W D (f x S1)) K ρ H (wAt W σ) r := by
  cases r with
  | ok a S' => exact fun ρ' H' e R => h
  | exc x S' => exact fun c d ρ' H' p => h c d σ ρ' H' p (he.ext hs p.1)
  | bad => exact h
def SS (X : Cx) (T : Fns) (W : WX) (st : Stmt) (c : C) : Prop := ∃ t, PS X st t ∧ ∀ ρ σ env H S D, RE X.K ρ H σ env → RS X.K ρ H S → OutS X.K ρ H W D (evS T c env S) → t D σ H
def SB (X : Cx) (T : Fns) (W : WX) (st : List Stmt) (c : Cs) : Prop := ∃ t, PSs X st t ∧ ∀ ρ σ env H S D, RE X.K ρ H σ env → RS X.K ρ H S → OutS X.K ρ H W D (evB T c env S) → t D σ H
theorem SB.nil : SB X T W [] .nil := ⟨_, pss_nil, fun ρ σ env H S D he hs h => h σ ρ H Ext.refl hs he⟩
theorem SB.cons {st : Stmt} {sts : List Stmt} {c : C} {cs : Cs} (h1 : SS X T W st c) (h2 : SB X T W sts cs) : SB X T W (st :: sts) (.cons c cs) := by
  obtain ⟨t, p, s⟩ := h1
  obtain ⟨t2, p2, s2⟩ := h2
  refine ⟨_, pss_cons p p2, fun ρ σ env H S D he hs h => ?_⟩
  refine s ρ σ env H S _ he hs ?_
  have h' : OutS X.K ρ H W D ((evS T c env S).bind fun env S => evB T cs env S) := h
  revert h'
  generalize evS T c env S = r
  intro h'
  cases r with
  | ok f env' S' =>
    cases f with
    | nx => exact fun σ' ρ' H' e R r => s2 ρ' σ' env' H' S' D r R (OutS.mono e h')
    | bk => exact h'
    | ct => exact h'
    | rt r => exact h'
  | exc x env' S' => exact h'
  | bad => exact h'
theorem SS.pass : SS X T W (.Pass pos) .pass := ⟨_, ps_pass, fun ρ σ env H S D he hs h => h σ ρ H Ext.refl hs he⟩
theorem SS.brk : SS X T W (.Break pos) .brk := ⟨_, ps_break, fun ρ σ env H S D he hs h => h σ ρ H Ext.refl hs he⟩
theorem SS.cont : SS X T W (.Continue pos) .cont := ⟨_, ps_continue, fun ρ σ env H S D he hs h => h σ ρ H Ext.refl hs he⟩
theorem SS.never {st : Stmt} : SS X T W st .never := ⟨_, ps_never, fun ρ σ env H S D he hs h => h⟩
theorem SS.retN : SS X T W (.Return none pos) (.ret .none) := ⟨_, ps_retN, fun ρ σ env H S D he hs h => h .non ρ H ⟨Ext.refl, RV.non, hs, fun _ _ z _ => nomatch z⟩⟩
theorem SS.ret (ha : SE X T W a a') : SS X T W (.Return (some a) pos) (.ret (.some a')) := by
  obtain ⟨t, p, s⟩ := ha
  refine ⟨_, ps_ret p, fun ρ σ env H S D he hs h => ?_⟩
  refine s ρ σ env H S _ he hs ((OutS.ofE he hs h).imp fun v H1 ⟨x, S1, ρ1, po, h1⟩ => ?_)
  exact h1 v ρ1 H1 po
theorem SS.ex (ha : SE X T W a a') (hn : notComp a = true) : SS X T W (.Expr a pos) (.ex a') := by
  obtain ⟨t, p, s⟩ := ha
  refine ⟨_, ps_expr p (swaps_not hn), fun ρ σ env H S D he hs h => ?_⟩
  refine s ρ σ env H S _ he hs ((OutS.ofE he hs h).imp fun v H1 ⟨x, S1, ρ1, po, h1⟩ => ?_)
  exact h1 σ ρ1 H1 po.ext po.sto (he.ext hs po.ext)
theorem SS.ite {p q : List Stmt} {p' q' : Cs} (hc : ST X T W c c') (ha : SB X T W p p') (hb : SB X T W q q') : SS X T W (.If c p q pos) (.ite c' p' q') := by
  obtain ⟨t0, p0, s0⟩ := hc
  obtain ⟨t, pp, s⟩ := ha
  obtain ⟨t2, p2, s2⟩ := hb
  refine ⟨_, ps_if p0 pp p2, fun ρ σ env H S D he hs h => ?_⟩
  refine s0 ρ σ env H S _ he hs (OutG.imp (OutS.ofG he hs h) fun k ρ1 H1 S1 _ e1 R1 q => ?_)
  cases k with
  | true => exact s ρ1 σ env H1 S1 D (he.ext hs e1) R1 (OutS.mono e1 q)
  | false => exact s2 ρ1 σ env H1 S1 D (he.ext hs e1) R1 (OutS.mono e1 q)
theorem SS.set {i : Nat} {x : Str} {p1 : Pos} (g : Gd X G T W) (hi : X.N[i]? = some x) (hx : locB X.env.scope x = true) (ha : SE X T W a a') (hs : swapsWith a (some (.Name x p1)) pos.line X.env = pure false) (hf : X.fn x = true ∨ X.env.scope.names.lookup x = some .local) :
    SS X T W (.Assign [.Name x p1] a pos) (.set i a') := by
  obtain ⟨t, p, s⟩ := ha
  refine ⟨_, ps_set g.nd hi (loc_of hx) p hs hf, fun ρ σ env H S D he hs h => ?_⟩
  refine s ρ σ env H S _ he hs ((OutS.ofE he hs h).imp fun v H1 ⟨x, S1, ρ1, po, h1⟩ => ?_)
  obtain ⟨ρ2, pv⟩ := po.lay
  exact h1 _ ρ2 H1 pv.ext pv.sto ((he.ext hs pv.ext).set pv.rel)
theorem SS.setLc {i : Nat} {x : Str} {p1 spos : Pos} {elt tg iter : Expr} {ifs : List Expr} {scope : Scope} {own : List (Str × Nat)} {ow : List Nat} {tg' : Tg} {it' : Fe.It} {ifs' : Eo} {elt' : E} (g : Gd X G T W) (hi : SI X T W tg iter it') (ok : blkC X.N X.env.scope scope own = true) (how : own.map (·.2) = ow) (hsl : ∀ j ∈ tgSl tg', j ∈ ow)
    (hg : ∀ (s : Shared) (H : Hp) (C : Addr) (cl : List (Str × Addr)) (fp : List Addr), SG (Blk X scope s H C cl fp) tg tg')
    (ht : ∀ (s : Shared) (H : Hp) (C : Addr) (cl : List (Str × Addr)) (fp : List Addr), STs (Blk X scope s H C cl fp) T W0 ifs ifs')
    (he : ∀ (s : Shared) (H : Hp) (C : Addr) (cl : List (Str × Addr)) (fp : List Addr), SE (Blk X scope s H C cl fp) T W0 elt elt')
    (hns : notSet iter = true) (hi2 : X.N[i]? = some x) (hyl : X.env.scope.names.lookup x = some .local) (hsw : swapsWith (.ListComp elt [⟨tg, iter, ifs, 0⟩] scope pos) (some (.Name x p1)) spos.line X.env = pure true) :
    SS X T W (.Assign [.Name x p1] (.ListComp elt [⟨tg, iter, ifs, 0⟩] scope pos) spos) (.set i (.comp ow tg' it' ifs' elt')) := by
  subst how
  obtain ⟨wi, p, si⟩ := hi
  refine ⟨_, ps_setLc (g := semG X.K tg') (tt := semTs X.K T W0 ifs') (te := semE X.K T W0 elt') g.calm g.nd hi2 hyl hsw p (blkOk_by ok) (fun s H C cl fp => (hg s H C cl fp).pg) (fun s H C cl fp => (ht s H C cl fp).pt) (fun s H C cl fp => (he s H C cl fp).pe) (folded_not hns), fun ρ σ env H S D he hs h => ?_⟩
  refine lc_snd si (fun ρ σ env env' H S v x Q h1 h2 h3 h4 h5 => ⟨ρ, env, env', S, x, h1, h2, h3, h4, h5⟩) (fun ρ σ env H S Q h1 h2 h3 => ⟨ρ, env, S, h1, h2, h3⟩) (fun ρ σ env H S Q h1 h2 h3 => ⟨ρ, env, S, h1, h2, h3⟩) hsl ρ σ env H S _ he hs ((OutS.ofE he hs h).imp fun v H1 ⟨x, S1, ρ1, po, h1⟩ => ?_)
  obtain ⟨ρ2, pv⟩ := po.lay
  exact h1 _ ρ2 H1 pv.ext pv.sto ((he.ext hs pv.ext).set pv.rel)
theorem sole_not {e tg : Expr} {l : Nat} {env : PySem.Env} (h : notComp e = true) : swapsWithSole [tg] e l env = pure false := swaps_not h
theorem SS.asg {tg : Expr} {t : Tg} (ha : SE X T W a a') (hg : SGL X tg t) (hn : notComp a = true) (hw : swappedStores [tg] a X.env = pure none) (hst : notStar tg = true) : SS X T W (.Assign [tg] a pos) (.asg t a') := by
  obtain ⟨ta, p, s⟩ := ha
  obtain ⟨g, pg, sg, sl⟩ := hg
  refine ⟨_, ps_asg p pg (sole_not hn) hw (assign_cons (es := []) _ hst), fun ρ σ env H S D he hs h => ?_⟩
  refine s ρ σ env H S _ he hs ((OutS.ofE he hs h).imp fun v H1 ⟨x, S1, ρ1, po, h1⟩ => ?_)
  split at h1
  · rename_i y
    split at h1
    · rename_i env' hy
      exact sg ρ1 σ env env' H1 S1 v y _ (he.ext hs po.ext) po.sto po.rel hy fun σ' he' => h1 σ' ρ1 H1 po.ext po.sto he'
    · split at h1
      · rename_i env' hy
        cases q : lstW S1 (.v y) with
        | none => rw [q] at hy; cases hy
        | some xs =>
          rw [q] at hy
          exact sl ρ1 σ env env' H1 S1 v xs _ (he.ext hs po.ext) po.sto (RR.lstW po.sto po.rel q) hy fun σ' he' => h1 σ' ρ1 H1 po.ext po.sto he'
      · exact h1.elim
  · rename_i y
    split at h1
    · rename_i env' hy
      exact sl ρ1 σ env env' H1 S1 v y _ (he.ext hs po.ext) po.sto (RR.lstW po.sto po.rel rfl) hy fun σ' he' => h1 σ' ρ1 H1 po.ext po.sto he'
    · exact h1.elim
  · exact h1.elim
theorem SS.par {i j : Nat} {x y : Str} {px py pt pt2 : Pos} {kt k2 : Nat} (g : Gd X G T W) (hi : X.N[i]? = some x) (hj : X.N[j]? = some y) (hij : i ≠ j) (hx : X.env.scope.names.lookup x = some .local) (hy : X.env.scope.names.lookup y = some .local)
    (ha : SA X T W [a, b] (.cons a' (.cons b' .nil))) (hw : swappedStores [.Tuple [.Name x px, .Name y py] kt pt] (.Tuple [a, b] k2 pt2) X.env = pure (some [x, y])) : SS X T W (.Assign [.Tuple [.Name x px, .Name y py] kt pt] (.Tuple [a, b] k2 pt2) pos) (.par i j a' b') := by
  obtain ⟨t, p, s⟩ := ha
  refine ⟨_, ps_par g.calm g.nd hi hj hij hx hy p hw (sole_not rfl), fun ρ σ env H S D he hs h => ?_⟩
  refine s ρ σ env H S _ he hs (OutG.imp (OutS.ofG he hs h) fun xs ρ1 H1 S1 _ e1 R1 q vs hv => ?_)
  split at q
  · cases hv with
    | cons hv hv2 =>
      cases hv2 with
      | cons hv2 hnil =>
        cases hnil
        exact ⟨_, _, rfl, q _ ρ1 H1 e1 R1 (((he.ext hs e1).set hv).set hv2)⟩
  · exact q.elim
def rSetD : TSet := fun o i v H Q => ∃ a ks k, o = .ref a ∧ H a = some (.dK ks) ∧ i = kV k ∧ ks.length < sizeLine ∧ Q (upd H a (.dK (putK ks k v)))
open PySem.Spec PyProof.Rows in
theorem set_dic : PSet X rSetD := by
  intro pins s σ H o i v ov iv u Q I ro ri rv h
  obtain ⟨a, ks, k, rfl, e, rfl, l, q⟩ := h
  cases ro
  obtain ⟨z, hd, vs, rel, dd⟩ := dk_of I.hok e
  have hz : vs.length ≤ sizeLine := by rw [← rel.length]; exact z
  have hl : (putK ks k v).length ≤ sizeLine := by have := length_putK ks k v; omega
  refine wpAny_setItem_pairs (hsz := hz) (kV_is ri) dd fun h' dd' hs => ⟨_, ?_, q⟩
  have he : ∃ q, h'.get? a = some q := let ⟨q, _, _, hq, _⟩ := dd'; ⟨q, hq⟩
  exact d_write I (by rw [e]; exact True.intro) hs he (dk_new hl hd (rel.put k rv) dd')
theorem set_or {t t' : TSet} (h : PSet X t) (h' : PSet X t') : PSet X (fun o i v H Q => t o i v H Q ∨ t' o i v H Q) := by
  intro pins s σ H o i v ov iv u Q I ro ri rv q
  rcases q with q | q
  · exact h pins s σ H o i v ov iv u Q I ro ri rv q
  · exact h' pins s σ H o i v ov iv u Q I ro ri rv q
theorem SS.setIx (ho : SE X T W o o') (hi : SE X T W b b') (he : SE X T W a a') (hn : notComp a = true) (hw : swappedStores [.Subscript o b pos] a X.env = pure none) (hns : notSlice b = true) {spos : Pos} : SS X T W (.Assign [.Subscript o b pos] a spos) (.setIx o' b' a') := by
  obtain ⟨t, p, s⟩ := he
  obtain ⟨t1, p1, s1⟩ := ho
  obtain ⟨t2, p2, s2⟩ := hi
  refine ⟨_, ps_asg p (pg_sub p1 p2 (set_or set_list set_dic) (by intro v; cases b <;> first | rfl | exact Bool.noConfusion hns)) (sole_not hn) hw rfl, fun ρ σ env H S D he hs h => ?_⟩
  refine s ρ σ env H S _ he hs ((OutS.ofE he hs h).imp fun v H1 ⟨r, S1, ρ1, po, h1⟩ => ?_)
  obtain ⟨ρ2, pv⟩ := po.lay
  have h1' := OutS.mono pv.ext h1
  have he2 := he.ext hs pv.ext
  refine s1 ρ2 σ env H1 _ _ he2 pv.sto ((OutS.ofE he2 pv.sto h1').imp fun w H2 ⟨x, S2, ρ3, po2, h2⟩ => ?_)
  have h2' := OutS.mono po2.ext h2
  have he3 := he2.ext pv.sto po2.ext
  refine s2 ρ3 σ env H2 _ _ he3 po2.sto ((OutS.ofE he3 po2.sto h2').imp fun u H3 ⟨y, S3, ρ4, po3, h3⟩ => ?_)
  split at h3
  · rename_i l k _
    obtain ⟨ad, rfl, hl⟩ : ∃ ad, w = .ref ad ∧ ρ4[l]? = some ad := by
      cases po2 with
      | mk e1 rel R1 nw =>
        cases rel with
        | ref hl => exact ⟨_, rfl, po3.ext.pre hl⟩
    cases hq : setIxR l k (Fe.lay r S1).1 S3 with
    | none => rw [hq] at h3; exact h3.elim
    | some S4 =>
      rw [hq] at h3
      dsimp only at h3
      unfold setIxR at hq
      have rvv := (pv.rel.ext pv.sto po2.ext).ext po2.sto po3.ext
      split at hq
      · rename_i xs hxs
        cases q : ixN xs.length k with
        | none => rw [q] at hq; cases hq
        | some jj =>
          rw [q] at hq
          cases hq
          obtain ⟨us, g1, g2⟩ := po3.sto.lst hl hxs
          obtain ⟨e5, R5⟩ := po3.sto.relist hl (RVs.set rvv jj g2)
          exact .inl ⟨ad, us, k, jj, rfl, po3.rel.int, g1, by rw [g2.length]; exact q, h3 σ ρ4 _ (po3.ext.trans e5) R5 ((he3.ext po2.sto po3.ext).ext po3.sto e5)⟩
      · rename_i kvs hkv
        split at hq
        · rename_i hz
          cases hq
          obtain ⟨ks, g1, g2⟩ := po3.sto.at' l ad _ hl hkv
          obtain ⟨e5, R5⟩ := po3.sto.redict hl (g2.put (a := .int k) (k := .inl k) rfl rvv)
          exact .inr ⟨ad, ks, .inl k, rfl, g1, po3.rel.int, by rw [g2.length]; exact hz, h3 σ ρ4 _ (po3.ext.trans e5) R5 ((he3.ext po2.sto po3.ext).ext po3.sto e5)⟩
        · cases hq
      · cases hq
  · rename_i l k _
    obtain ⟨ad, rfl, hl⟩ : ∃ ad, w = .ref ad ∧ ρ4[l]? = some ad := by
      cases po2 with
      | mk e1 rel R1 nw =>
        cases rel with
        | ref hl => exact ⟨_, rfl, po3.ext.pre hl⟩
    cases hq : setKeyR l k (Fe.lay r S1).1 S3 with
    | none => rw [hq] at h3; exact h3.elim
    | some S4 =>
      rw [hq] at h3
      dsimp only at h3
      unfold setKeyR at hq
      have rvv := (pv.rel.ext pv.sto po2.ext).ext po2.sto po3.ext
      split at hq
      · rename_i kvs hkv
        split at hq
        · rename_i hz
          cases hq
          obtain ⟨ks, g1, g2⟩ := po3.sto.at' l ad _ hl hkv
          obtain ⟨e5, R5⟩ := po3.sto.redict hl (g2.put (a := .str k) (k := .inr k) rfl rvv)
          exact .inr ⟨ad, ks, .inr k, rfl, g1, po3.rel.str, by rw [g2.length]; exact hz, h3 σ ρ4 _ (po3.ext.trans e5) R5 ((he3.ext po2.sto po3.ext).ext po3.sto e5)⟩
        · cases hq
      · cases hq
  · exact h3.elim

/-! ### x op= e -/
def ipR (o : Bop) : TIp := fun x y H Q => match o with
  | .add => rAddI x y H Q ∨ rAddS x y H Q
  | .sub => rI0 (fun i j => .int (i - j)) x y H Q
  | .mul => rI CMul (fun i j => .int (i * j)) x y H Q ∨ rI CMulW (fun i j => .int (i * j)) x y H Q
  | _ => False
theorem PIp_of {op : Operator} {r : R2} (h : OpR X (inplaceOp op) r) : PIp X op r := fun pins s σ H x y v u Q I rx ry q => h pins s σ H x y v u Q I rx ry q
theorem ip_ok : ∀ o : Bop, PIp X (opPy o) (ipR o)
  | .add => PIp_of (iop_add.or iop_add_str)
  | .sub => PIp_of iop_sub
  | .mul => PIp_of (iop_mul.or (opI fun _ _ _ _ _ _ _ hc q => PyProof.Rows.imul_int q (CMulW.ok hc)))
  | .fdiv => fun _ _ _ _ _ _ _ _ _ _ _ _ h => h.elim
  | .mod => fun _ _ _ _ _ _ _ _ _ _ _ _ h => h.elim
  | .pow => fun _ _ _ _ _ _ _ _ _ _ _ _ h => h.elim
theorem aug_snd {K : PySem.W.Frag} {ρ : List Addr} {H : Hp} {o : Bop} {v w : V} {x z : Val} {y : Rv} {Q : V → Hp → Prop} (hx : RV K ρ H v x) (hy : RR K ρ H w y) (e : augR o x y = some z) (h : ∀ u, RV K ρ H u z → Q u H) : ipR o v w H Q := by
  unfold augR at e
  split at e
  · cases e
    cases hx
    rw [hy.int]
    exact .inl ⟨_, _, rfl, rfl, h _ (.int _)⟩
  · split at e
    · rename_i hz
      cases e
      cases hx
      rw [hy.str]
      exact .inr ⟨_, _, rfl, rfl, hz, h _ (.str _)⟩
    · cases e
  · cases e
    cases hx
    rw [hy.int]
    exact ⟨_, _, rfl, rfl, h _ (.int _)⟩
  · split at e
    · rename_i hm
      cases e
      cases hx
      rw [hy.int]
      rcases mulOk_ok hm with c | c
      · exact .inl ⟨_, _, rfl, rfl, c, h _ (.int _)⟩
      · exact .inr ⟨_, _, rfl, rfl, c, h _ (.int _)⟩
    · cases e
  · cases e
theorem SS.aug {i : Nat} {x : Str} {p1 : Pos} {o : Bop} (g : Gd X G T W) (hi : X.N[i]? = some x) (hx : locB X.env.scope x = true) (ha : SE X T W a a') (hf : X.fn x = true ∨ X.env.scope.names.lookup x = some .local) : SS X T W (.AugAssign (.Name x p1) (opPy o) a pos) (.aug i o a') := by
  obtain ⟨t, p, s⟩ := ha
  refine ⟨_, ps_aug g.nd hi (loc_of hx) p (ip_ok o) hf, fun ρ σ env H S D he hs h => ?_⟩
  simp only [evS] at h
  split at h
  · rename_i y hy
    obtain ⟨v, h1, h2⟩ := he.at' i y hy
    refine ⟨v, h1, s ρ σ env H S _ he hs ((OutS.ofE he hs h).imp fun w H1 ⟨r, S1, ρ1, po, h3⟩ => ?_)⟩
    have he1 := he.ext hs po.ext
    cases q : augR o y r with
    | none => rw [q] at h3; exact h3.elim
    | some z =>
      rw [q] at h3
      have h3' : OutS X.K ρ H W D (.ok .nx (env.set i (some z)) S1) := h3
      exact aug_snd (h2.ext hs po.ext) po.rel q fun u hu => h3' _ ρ1 H1 po.ext po.sto (he1.set hu)
  · exact h.elim

/-! ### loops -/
theorem SS.wh {bd : List Stmt} {bd' : Cs} (hp : PassesOwn (model X.prog X.w) X.A X.env X.xe) (hc : ST X T W c c') (hb : SB X T W bd bd') : SS X T W (.While c bd [] pos) (.wh c' bd') := by
  obtain ⟨t, p, s⟩ := hc
  obtain ⟨t2, p2, s2⟩ := hb
  refine ⟨_, ps_while hp p p2, fun ρ0 σ0 env0 H0 S0 D he hs h => ?_⟩
  refine ⟨fun m σ H => ∃ ρ env S, RE X.K ρ H σ env ∧ RS X.K ρ H S ∧ OutS X.K ρ H W D (whL (evT T c') (evB T bd') m env S), ⟨whFuel, ρ0, env0, S0, he, hs, h⟩, ?_⟩
  rintro m σ H ⟨ρ, env, S, he, hs, h⟩
  cases m with
  | zero => exact h.elim
  | succ n =>
    have h' : OutS X.K ρ H W D ((evT T c' env S).st env fun k S1 => if k = true then match evB T bd' env S1 with
      | .ok .nx env2 S2 => whL (evT T c') (evB T bd') n env2 S2
      | .ok .ct env2 S2 => whL (evT T c') (evB T bd') n env2 S2
      | .ok .bk env2 S2 => .ok .nx env2 S2
      | r => r
    else .ok .nx env S1) := h
    refine s ρ σ env H S _ he hs (OutG.imp (OutS.ofG he hs h') fun k ρ1 H1 S1 _ e1 R1 q => ?_)
    cases k with
    | false => exact q σ ρ1 H1 e1 R1 (he.ext hs e1)
    | true =>
      refine ⟨fun σ' H' => ∃ ρ env S, RE X.K ρ H' σ' env ∧ RS X.K ρ H' S ∧ OutS X.K ρ H' W D (whL (evT T c') (evB T bd') n env S), fun σ' H' hN => ⟨n, Nat.lt_succ_self n, hN⟩, ?_⟩
      refine s2 ρ1 σ env H1 S1 _ (he.ext hs e1) R1 ?_
      have q' := OutS.mono e1 q
      simp only [if_true] at q'
      revert q'
      generalize evB T bd' env S1 = r
      intro q'
      cases r with
      | ok f env2 S2 =>
        cases f with
        | nx => exact fun σ' ρ' H' e' R' r' => ⟨ρ', env2, S2, r', R', OutS.mono e' q'⟩
        | ct => exact fun σ' ρ' H' e' R' r' => ⟨ρ', env2, S2, r', R', OutS.mono e' q'⟩
        | bk => exact q'
        | rt r => exact q'
      | exc x env2 S2 => exact q'
      | bad => exact q'
theorem SS.for {tg iter : Expr} {tg' : Tg} {it' : Fe.It} {bd : List Stmt} {bd' : Cs} (hp : PassesOwn (model X.prog X.w) X.A X.env X.xe) (g : Gd X G T W) (hi : SI X T W tg iter it') (hg : SG X tg tg') (hb : SB X T W bd bd') (hns : notSet iter = true) : SS X T W (.For tg iter bd [] pos) (.for tg' it' bd') := by
  obtain ⟨wi, p, si⟩ := hi
  obtain ⟨gt, pg, sg⟩ := hg
  obtain ⟨t2, p2, s2⟩ := hb
  refine ⟨_, ps_for hp g.calm p pg p2 (folded_not hns), fun ρ0 σ0 env0 H0 S0 D he hs h => ?_⟩
  refine si ρ0 σ0 env0 H0 S0 _ he hs (OutG.imp (OutS.ofG he hs h) fun src ρ1 H1 S1 _ e1 R1 q J hJ => ?_)
  refine ⟨fun i m σ H => ∃ ρ env S, m + i = src.items.length ∧ Ext ρ1 H1 ρ H ∧ RE X.K ρ H σ env ∧ RS X.K ρ H S ∧ OutS X.K ρ H W D (forL (evB T bd') tg' src.live (src.items.drop i) env S),
    ⟨src.items.length, ρ1, env0, S1, by omega, Ext.refl, he.ext hs e1, R1, OutS.mono e1 q⟩, ?_⟩
  rintro i m σ H ⟨ρ, env, S, hm, ex, he, hs, h⟩
  by_cases hlive : liveOk S src.live
  case neg =>
    exfalso
    cases hdr : src.items.drop i with
    | nil =>
      rw [hdr] at h
      simp only [forL, guardS, if_neg hlive] at h
      exact h
    | cons x r =>
      rw [hdr] at h
      simp only [forL, guardS, if_neg hlive] at h
      exact h
  case pos =>
  obtain ⟨yg, ys⟩ := hJ ρ H S ex hs hlive i
  cases hdr : src.items.drop i with
  | nil =>
    rw [hdr] at h
    simp only [forL, guardS_pos _ hlive] at h
    have hn : src.items[i]? = none := List.getElem?_eq_none (List.drop_eq_nil_iff.mp hdr)
    exact .inl ⟨ys hn, h σ ρ H Ext.refl hs he⟩
  | cons z r =>
    have hi : i < src.items.length := by
      have := congrArg List.length hdr
      rw [List.length_drop, List.length_cons] at this
      omega
    have hz1 : src.items[i]? = some z := by
      have : (src.items.drop i)[0]? = some z := by rw [hdr]; rfl
      rwa [List.getElem?_drop, Nat.add_zero] at this
    have hr : src.items.drop (i + 1) = r := by
      rw [← List.drop_drop, hdr]
      rfl
    obtain ⟨go, yl⟩ := yg z hz1
    rw [hdr] at h
    simp only [forL, guardS_pos _ hlive] at h
    refine .inr ⟨go, fun σ' H' => ∃ ρ env S, Ext ρ1 H1 ρ H' ∧ RE X.K ρ H' σ' env ∧ RS X.K ρ H' S ∧ OutS X.K ρ H' W D (forL (evB T bd') tg' src.live r env S), fun σ' H' ⟨ρ', env', S', h1, h2, h3, h4⟩ => ⟨m - 1, by omega, ρ', env', S', by omega, h1, h2, h3, by rw [hr]; exact h4⟩, fun x H' hy => ?_⟩
    obtain ⟨ey, Ry, rvx⟩ := yl x H' hy
    cases ha : asgT tg' z env with
    | none => rw [ha] at h; exact h.elim
    | some env1 =>
      rw [ha] at h
      dsimp only at h
      refine sg ρ σ env env1 H' S x z _ (he.ext hs ey) Ry rvx ha fun σ2 he2 _ => ?_
      refine s2 ρ σ2 env1 H' S _ he2 Ry ?_
      have h' := OutS.mono ey h
      revert h'
      generalize evB T bd' env1 S = rr
      intro h'
      cases rr with
      | ok f env2 S2 =>
        cases f with
        | nx => exact fun σ' ρ' H'' e' R' r' => ⟨ρ', env2, S2, (ex.trans ey).trans e', r', R', OutS.mono e' h'⟩
        | ct => exact fun σ' ρ' H'' e' R' r' => ⟨ρ', env2, S2, (ex.trans ey).trans e', r', R', OutS.mono e' h'⟩
        | bk => exact h'
        | rt r => exact h'
      | exc x env2 S2 => exact h'
      | bad => exact h'
end
end Fe

/-! Fe8x: errors of the program's own classes -/
namespace Fe
open PySem L2
section
variable {X : Cx} {T : Fns} {W : WX} {G : Glb} {pos : Pos}
theorem SS.rse {c m : Str} {sups : List Str} {j : Nat} {p p2 p3 : Pos} (g : Gd X G T W) (hc : (c, sups) ∈ G.ecl) (hg : glB X.env.scope c = true) (hd : (c == ("__debug__" : Str)) = false) : SS X T W (.Raise (some (.Call (.Name c p) [.Constant (.str m) j p2] [] p3)) none pos) (.rse c m) := by
  obtain ⟨C, E⟩ := g.exc c sups hc
  refine ⟨_, ps_raise g.calm g.tk (pmk_own PySem.F.excBase_ValueError E.ex E.mgc E.kp (raises_own E.sb E.ty) (gl_of hg) hd), fun ρ σ env H S D he hs h => ?_⟩
  exact h (.ref C) none σ ρ H ⟨Ext.refl, hs, rfl, E.ns⟩ he
/-- isinstance(e, (c, ..)), e the error that is held -/
def rIsET (K : PySem.W.Frag) (D a : Addr) : List V → Hp → VK → Prop := fun xs H Q => ∃ (tp : Addr) (cs : List V) (us : List Value) (b : Bool), xs = [.ref a, .ref tp] ∧ H tp = some (.tup cs) ∧ (∀ ws, Vals cs ws → ws = us) ∧ PySem.W.kitAny K (.ref D) us = some b ∧ Q (.bl b) H
theorem call_isET {a D : Addr} {oe : Obj} {pn : List (Addr × Obj)} (C : ExcC X.K D) (hz : Zc (.ref D) none oe) (hf : ∃ vs, oe.data = .fields vs) : CallR (X.suite a ((a, oe) :: pn)) (.builtin "isinstance") (rIsET X.K D a) := by
  intro pins s σ H xs us Q I r h
  obtain ⟨tp, cs, ws, b, rfl, hT, hws, e, q⟩ := h
  obtain ⟨u1, u2, rfl, r1, r2⟩ := vals2 r
  cases r1
  cases (show u2 = Value.ref tp from r2)
  obtain ⟨hget, _⟩ := I.pin (a, oe) (List.mem_append.mpr (.inl List.mem_cons_self))
  obtain ⟨vs, hv⟩ := hf
  have J : PySem.W.InstAt s.heap a oe D none := by
    obtain ⟨oc, od, oda, osl⟩ := oe
    obtain ⟨h1, h2⟩ := hz
    dsimp only at h1 h2 hv
    subst h1 h2 hv
    exact ⟨hget, rfl, rfl, trivial⟩
  obtain ⟨_, its, rv, o, g1, g2, n, g3⟩ := (show ObjOk X.prog X.w H s.heap tp (.tup cs) from I.hok tp _ hT)
  have e3 := hws its rv
  subst e3
  obtain ⟨oc, od, dt, sl⟩ := o
  simp only at g2 g3
  subst g2 g3
  exact PySem.W.kia_tup (PySem.W.handS_kitx_exc C.hg C.hk C.hs C.hd C.ha C.hn C.ht C.hm) I.kIn J g1 e (fun z => nomatch z) fun tk => ⟨.bl b, H, I.kept (t' := tk) fun _ _ z => z, rfl, q⟩
/-- the names of classes -/
def chkNm (sc : Scope) : List Str → List Expr → Bool
  | [], [] => true
  | n :: ns, .Name x _ :: es => n == x && glB sc x && !(x == ("__debug__" : Str)) && chkNm sc ns es
  | _, _ => false
theorem pe_cls {Y : Cx} {mg : Str → Option Value} {n : Str} {cv : Value} {v : V} {p : Pos} (hmg : Y.mg = mg) (hg : glB Y.env.scope n = true) (hd : (n == ("__debug__" : Str)) = false) (h : mg n = some cv ∨ (mg n = none ∧ bootBuiltins n = some cv ∧ n ≠ "__name__")) (r : RelV v cv) : PE Y (.Name n p) (tC v) := by
  subst hmg
  rcases h with h | ⟨h1, h2, h3⟩
  · exact pe_glob (gl_of hg) h r hd
  · exact pe_bltn (gl_of hg) h1 h2 r h3 hd
theorem pa_cls {K : PySem.W.Frag} {mg : Str → Option Value} {ask sups : List Str} {c : Str} {C : Addr} (E : EC K mg ask c sups C) {Y : Cx} (hmg : Y.mg = mg) : ∀ (ns : List Str) (es : List Expr), chkNm Y.env.scope ns es = true → (∀ n ∈ ns, n ∈ ask) →
    ∃ (vs : List V) (us : List Value) (t : TA), PA Y es t ∧ (∀ σ H Q, Q vs H → t σ H Q) ∧ (∀ ws, Vals vs ws → ws = us) ∧ PySem.W.kitAny K (.ref C) us = some (ns.any fun n => sups.contains n) ∧ vs.length = ns.length
  | [], [], _, _ => ⟨[], [], _, pa_nil, fun σ H Q q => q, fun ws h => by cases h; rfl, rfl, rfl⟩
  | n :: ns, .Name x p :: es, h, ha => by
    simp only [chkNm, Bool.and_eq_true, Bool.not_eq_true'] at h
    obtain ⟨⟨⟨h1, h2⟩, h3⟩, h4⟩ := h
    have e1 := eq_of_beq h1
    subst e1
    obtain ⟨cv, v, m, r, ru, ki, _⟩ := E.as n (ha n (by simp))
    obtain ⟨vs, us, t, p1, p2, p3, p4, p5⟩ := pa_cls E hmg ns es h4 fun z hz => ha z (by simp [hz])
    refine ⟨v :: vs, cv :: us, _, pa_cons (pe_cls hmg h2 h3 m r) p1, fun σ H Q q => p2 σ H _ q, fun ws hw => ?_, ?_, by simp [p5]⟩
    · cases hw with
      | cons q1 q2 => rw [ru _ q1, p3 _ q2]
    · have hk : PySem.W.kitAny K (.ref C) (cv :: us) = (match PySem.W.kitOne K (.ref C) cv with | some true => some true | some false => PySem.W.kitAny K (.ref C) us | none => none) := rfl
      rw [hk, ki, p4, List.any_cons]
      cases sups.contains n <;> rfl
  | [], _ :: _, h, _ => by simp [chkNm] at h
  | _ :: _, [], h, _ => by simp [chkNm] at h
/-- what stands in a handler -/
def chkH (sc : Scope) (n : Str) : List (List Str) → Str → Str → List Stmt → Bool
  | [], p, q, sts => match sts with
    | [.Return (some (.BoolOp .And [.Call (.Name i1 _) [.Name e1 _, .Name c1 pc1] [] _, .Call (.Name i2 _) [.Name e2 _, .Name c2 pc2] [] _] _)) _] =>
      i1 == ("isinstance" : Str) && i2 == ("isinstance" : Str) && e1 == n && e2 == n && chkNm sc [p] [.Name c1 pc1] && chkNm sc [q] [.Name c2 pc2]
    | _ => false
  | l :: r, p, q, sts => match sts with
    | .If (.Call (.Name i1 _) [.Name e1 _, .Tuple cs _ _] [] _) [.Return (some (.Constant (.bool false) _ _)) _] [] _ :: rest =>
      i1 == ("isinstance" : Str) && e1 == n && chkNm sc l cs && decide (l.length ≤ 1000) && chkH sc n r p q rest
    | _ => false
theorem lookup_mem : ∀ {l : List (Str × List Str)} {k : Str} {v : List Str}, l.lookup k = some v → (k, v) ∈ l
  | [], _, _, h => by cases h
  | (a, b) :: l, k, v, h => by
    rw [List.lookup_cons] at h
    split at h
    · rename_i e
      cases h
      rw [eq_of_beq e]
      simp
    · simp [lookup_mem h]
/-- the wish of a handler -/
def tHan (K : PySem.W.Frag) (i : Nat) (a : Addr) (b : Bool) : TS := fun D σ H => σ[i]? = some (some (.ref a)) ∧ ∃ ρ S, RS K ρ H S ∧ ∀ H', Ext ρ H ρ H' → RS K ρ H' S → D.rt (.bl b) H'
theorem tHan.one {K : PySem.W.Frag} {ask sups : List Str} {mg : Str → Option Value} {c : Str} {C a : Addr} {Y : Cx} (hY : Y.mg = mg) (E : EC K mg ask c sups C) (hK : Y.K = K) {i : Nat} {n x : Str} {p1 p2 p3 p4 : Pos} (hN : Y.N[i]? = some n) (hv : visB Y.env.scope n = true) (hd : (n == ("__debug__" : Str)) = false) (hcd : (n == ("__classdict__" : Str)) = false) (hgi : glB Y.env.scope "isinstance" = true) (hmi : mg "isinstance" = none)
    (ci : CallR Y (.builtin "isinstance") (rIsE K C a)) (hx : chkNm Y.env.scope [x] [.Name x p3] = true) (ha : x ∈ ask) : ∃ t, PE Y (.Call (.Name "isinstance" p1) [.Name n p2, .Name x p3] [] p4) t ∧ ∀ σ H Q, σ[i]? = some (some (.ref a)) → Q (.bl (sups.contains x)) H → t σ H Q := by
  simp only [chkNm, Bool.and_eq_true, Bool.not_eq_true'] at hx
  obtain ⟨⟨⟨_, h2⟩, h3⟩, _⟩ := hx
  obtain ⟨cv, v, m, r, ru, ki, _⟩ := E.as x ha
  refine ⟨_, pe_callB ci (gl_of hgi) (by rw [hY]; exact hmi) (by decide +kernel) (pa_cons (pe_var hN (vis_of hv) hd hcd) (pa_cons (pe_cls hY h2 h3 m r) pa_nil)) (by decide) (by decide), fun σ H Q hs q => ?_⟩
  exact ⟨.ref a, hs, v, cv, _, rfl, ru, ki, q⟩
theorem Ext.new_tup {K : PySem.W.Frag} {ρ : List Addr} {H H' : Hp} {S : Sto} {p : Addr} {o : HO} (R : RS K ρ H' S) (e : Ext ρ H ρ H') (hp : H' p = none) : Ext ρ H ρ (upd H' p o) ∧ RS K ρ (upd H' p o) S := ⟨e.trans (Ext.new hp), R.new hp⟩
theorem tHan.mono {K : PySem.W.Frag} {i : Nat} {a : Addr} {b : Bool} {D : Ends} {σ : St} {H H' : Hp} (hs : σ[i]? = some (some (.ref a))) {ρ : List Addr} {S : Sto} (e : Ext ρ H ρ H') (R : RS K ρ H' S) (h : ∀ H', Ext ρ H ρ H' → RS K ρ H' S → D.rt (.bl b) H') : tHan K i a b D σ H' := ⟨hs, ρ, S, R, fun H2 e2 R2 => h H2 (e.trans e2) R2⟩
/-- a handler that asks for classes -/
theorem han_snd {K : PySem.W.Frag} {ask sups : List Str} {mg : Str → Option Value} {c : Str} {C a : Addr} {Y : Cx} (hY : Y.mg = mg) (E : EC K mg ask c sups C) (hK : Y.K = K) {i : Nat} {n : Str} (hN : Y.N[i]? = some n) (hv : visB Y.env.scope n = true) (hd : (n == ("__debug__" : Str)) = false) (hcd : (n == ("__classdict__" : Str)) = false) (hgi : glB Y.env.scope "isinstance" = true) (hmi : mg "isinstance" = none)
    (ci : CallR Y (.builtin "isinstance") (rIsE K C a)) (ct : CallR Y (.builtin "isinstance") (rIsET K C a)) (p q : Str) (hp : p ∈ ask) (hq : q ∈ ask) : ∀ (ifs : List (List Str)) (sts : List Stmt), chkH Y.env.scope n ifs p q sts = true → (∀ l ∈ ifs, ∀ x ∈ l, x ∈ ask) → PSs Y sts (tHan K i a (hndl sups ifs p q)) := by
  intro ifs
  induction ifs with
  | nil =>
    intro sts h _
    simp only [chkH] at h
    split at h
    · rename_i i1 pA1 e1 pB1 c1 pc1 pC1 i2 pA2 e2 pB2 c2 pc2 pC2 pAnd pRet
      simp only [Bool.and_eq_true] at h
      obtain ⟨⟨⟨⟨⟨h1, h2⟩, h3⟩, h4⟩, h5⟩, h6⟩ := h
      rw [eq_of_beq h1, eq_of_beq h2, eq_of_beq h3, eq_of_beq h4]
      have k5 : p = c1 := by
        simp only [chkNm, Bool.and_eq_true] at h5
        exact eq_of_beq h5.1.1.1
      have k6 : q = c2 := by
        simp only [chkNm, Bool.and_eq_true] at h6
        exact eq_of_beq h6.1.1.1
      subst k5 k6
      obtain ⟨t1, a1, s1⟩ := tHan.one (p1 := pA1) (p2 := pB1) (p3 := pc1) (p4 := pC1) hY E hK hN hv hd hcd hgi hmi ci h5 hp
      obtain ⟨t2, a2, s2⟩ := tHan.one (p1 := pA2) (p2 := pB2) (p3 := pc2) (p4 := pC2) hY E hK hN hv hd hcd hgi hmi ci h6 hq
      have P : PSs Y [.Return (some (.BoolOp .And [.Call (.Name "isinstance" pA1) [.Name n pB1, .Name p pc1] [] pC1, .Call (.Name "isinstance" pA2) [.Name n pB2, .Name q pc2] [] pC2] pAnd)) pRet] _ := pss_cons (ps_ret (pe_and a1 (pe_one a2))) pss_nil
      refine ⟨fun pins st σ H D I hh => P.run pins st σ H D I ?_⟩
      obtain ⟨hs, ρ, S, R, hr⟩ := hh
      refine s1 σ H _ hs ⟨_, rfl, ?_⟩
      have fin := hr H Ext.refl R
      unfold hndl at fin
      cases z : sups.contains p with
      | true =>
        rw [z, Bool.true_and] at fin
        exact s2 σ H _ hs fin
      | false =>
        rw [z, Bool.false_and] at fin
        exact fin
    · cases h
  | cons l r ih =>
    intro sts h hask
    simp only [chkH] at h
    split at h
    · rename_i i1 pA e1 pe cs kc pc pcall kb pb pr pif rest
      simp only [Bool.and_eq_true, decide_eq_true_eq] at h
      obtain ⟨⟨⟨⟨h1, h2⟩, h3⟩, h4⟩, h5⟩ := h
      rw [eq_of_beq h1, eq_of_beq h2]
      obtain ⟨vs, us, t, b1, b2, b3, b4, b5⟩ := pa_cls E hY l cs h3 fun x hx => hask l (by simp) x hx
      have PI := ih rest h5 fun l' hl => hask l' (by simp [hl])
      have PC : PE Y (.Call (.Name "isinstance" pA) [.Name n pe, .Tuple cs kc pc] [] pcall) (tCB (rIsET K C a) _) := pe_callB ct (gl_of hgi) (by rw [hY]; exact hmi) (by decide +kernel) (pa_cons (pe_var hN (vis_of hv) hd hcd) (pa_cons (pe_tup b1) pa_nil)) (by decide) (by decide)
      have P : PSs Y (.If (.Call (.Name "isinstance" pA) [.Name n pe, .Tuple cs kc pc] [] pcall) [.Return (some (.Constant (.bool false) kb pb)) pr] [] pif :: rest) _ := pss_cons (ps_if (pt_truth PC (plain_true rfl)) (pss_cons (ps_ret pe_bl) pss_nil) pss_nil) PI
      refine ⟨fun pins st σ H D I hh => P.run pins st σ H D I ?_⟩
      obtain ⟨hs, ρ, S, R, hr⟩ := hh
      refine ⟨.ref a, hs, b2 σ H _ ⟨?_, fun p hp => ?_⟩⟩
      · rw [b5]; exact Nat.le_of_lt (small1000 h4)
      · obtain ⟨e1, R1⟩ := Ext.new_tup (o := .tup vs) R Ext.refl hp
        refine ⟨p, vs, us, _, rfl, upd_same, b3, b4, (l.any fun n => sups.contains n), by rw [hK]; exact tru_snd (x := .v (.bl _)) R1 (RV.bl _) rfl, ?_⟩
        unfold hndl at hr
        cases z : (l.any fun n => sups.contains n) with
        | true =>
          rw [z] at hr
          exact hr _ e1 R1
        | false =>
          rw [z] at hr
          exact tHan.mono hs e1 R1 hr
    · cases h
/-- a body's reading by the interpreter alone -/
def semB (K : PySem.W.Frag) (T : Fns) (c : Cs) (W : WX) : TS := fun D σ H => ∃ ρ env S, RE K ρ H σ env ∧ RS K ρ H S ∧ OutS K ρ H W D (evB T c env S)
theorem SB.ps {sts : List Stmt} {c : Cs} (h : SB X T W sts c) : PSs X sts (semB X.K T c W) := by
  obtain ⟨t, p, s⟩ := h
  exact ⟨fun pins st σ H D I ⟨ρ, env, S, h1, h2, h3⟩ => p.run pins st σ H D I (s ρ σ env H S D h1 h2 h3)⟩
theorem SS.tryE {body : List Stmt} {body' : Cs} {b0 : Stmt} {sts : List Stmt} {c n : Str} {i : Nat} {ifs : List (List Str)} {p q : Str} {np pos' : Pos} (g : Gd X G T W) (hs : X.stack = X.env :: X.outer) (hf : X.env.frame = some X.env.locals) (hi : X.N[i]? = some n) (hln : X.env.kindOf n = some .local)
    (hgc : glB X.env.scope c = true) (hdc : (c == ("__debug__" : Str)) = false) (hca : c ∈ G.ask) (hv : visB X.env.scope n = true) (hd : (n == ("__debug__" : Str)) = false) (hcd : (n == ("__classdict__" : Str)) = false) (hgi : glB X.env.scope "isinstance" = true) (hp : p ∈ G.ask) (hq : q ∈ G.ask) (hne : G.ecl ≠ [])
    (hh : chkH X.env.scope n ifs p q (b0 :: sts) = true) (hask : ∀ l ∈ ifs, ∀ x ∈ l, x ∈ G.ask)
    (hb : ∀ (W' : WX) (pn : List (Addr × Obj)) (xe : Value → Shared → Prop), Takes (X.tr pn xe) W' → PassesOwn (model X.prog X.w) X.A X.env xe → SB (X.tr pn xe) T W' body body') :
    SS X T W (.Try body [.ExceptHandler (some (.Name c np)) (some n) (b0 :: sts) pos'] [] [] pos) (.tryE G.ecl body' c i ifs p q) := by
  obtain ⟨⟨c0, s0⟩, hc0⟩ : ∃ e, e ∈ G.ecl := by
    cases h : G.ecl with
    | nil => exact absurd h hne
    | cons e r => exact ⟨e, by simp⟩
  obtain ⟨C0, E0⟩ := g.exc c0 s0 hc0
  obtain ⟨cv, v, m, _, _, _, _⟩ := E0.as c hca
  have hmi := g.blt "isinstance" (by decide +kernel)
  refine ⟨_, ps_try_as (tb := semB X.K T body') (ts := fun a cls d => fun D σ H => ∃ C cn sups σ0, cls = .ref C ∧ d = none ∧ EC X.K X.mg G.ask cn sups C ∧ σ = List.set σ0 i (some (.ref a)) ∧ ∃ ρ S, RS X.K ρ H S ∧ ∀ H', Ext ρ H ρ H' → RS X.K ρ H' S → D.rt (.bl (hndl sups ifs p q)) H') hs hf g.nd hi hln ⟨gl_of hgc, hdc, m⟩ g.tk (fun W' pn xe tk po => (hb W' pn xe tk po).ps) (fun a oe cls d pn hz hfl => ?_), fun ρ σ env H S D he hs h => ?_⟩
  · refine ⟨fun pins st σ H D I hh2 => ?_⟩
    obtain ⟨C, cn, sups, σ0, rfl, rfl, E, hset, hr⟩ := hh2
    have hlen : (List.set σ0 i (some (V.ref a))).length = X.N.length := by rw [← hset]; exact I.len
    have hil : i < X.N.length := (List.getElem?_eq_some_iff.mp hi).1
    have hget : σ[i]? = some (some (.ref a)) := by
      rw [hset]
      exact List.getElem?_set_self (by rw [List.length_set] at hlen; omega)
    have ht : tHan X.K i a (hndl sups ifs p q) D σ H := ⟨hget, hr⟩
    exact (han_snd (Y := X.suite a ((a, oe) :: pn)) (a := a) rfl E rfl hi hv hd hcd hgi hmi (call_isE E.ec hz hfl) (call_isET E.ec hz hfl) p q hp hq ifs (b0 :: sts) hh hask).run pins st σ H D I ht
  · refine ⟨ρ, env, S, he, hs, ?_⟩
    have h' : OutS X.K ρ H W D (meetE G.ecl c ifs p q (evB T body' env S)) := h
    revert h'
    generalize evB T body' env S = r
    intro h'
    cases r with
    | ok f env' S' => cases f <;> exact h'
    | bad => exact h'
    | exc x env' S' =>
      intro cl d σ' ρ' H' po re
      simp only [meetE] at h'
      cases hl : G.ecl.lookup x.cls with
      | none => rw [hl] at h'; exact h'.elim
      | some sups =>
        rw [hl] at h'
        simp only at h'
        have hmem : (x.cls, sups) ∈ G.ecl := lookup_mem hl
        obtain ⟨C, E⟩ := g.exc x.cls sups hmem
        obtain ⟨e1, R1, hd0, hns⟩ := po
        have hcl : cl = .ref C := by
          rw [E.ns] at hns
          cases hns
          rfl
        obtain ⟨cv2, v2, m2, _, _, _, ex2⟩ := E.as c hca
        have hcv : cv2 = cv := by
          rcases m with m | m <;> rcases m2 with m2 | m2
          · rw [m] at m2; cases m2; rfl
          · rw [m] at m2; cases m2.1
          · rw [m.1] at m2; cases m2
          · rw [m.2.1] at m2; cases m2.2.1; rfl
        subst hcv
        refine ⟨_, by rw [hcl]; exact ex2, fun hb2 a ha => ?_, fun hb2 => ?_⟩
        · rw [if_pos hb2] at h'
          refine ⟨C, x.cls, sups, σ', hcl, hd0, E, rfl, ρ', S', R1, fun H2 e2 R2 => ?_⟩
          exact h' (.bl _) ρ' H2 ⟨e1.trans e2, RV.bl _, R2, fun _ _ z _ => nomatch z⟩
        · rw [hb2] at h'
          simp only [Bool.false_eq_true, if_false] at h'
          exact h' cl d σ' ρ' H' ⟨e1, R1, hd0, hns⟩ re
end
end Fe

/-! Fe9: the check that a text is what the small language says, and what follows -/
namespace Fe
open PySem L2
def nameOk (x : Str) : Bool := !(x == ("__debug__" : Str)) && !(x == ("__classdict__" : Str))
theorem nameOk_of {x : Str} (h : nameOk x = true) : (x == ("__debug__" : Str)) = false ∧ (x == ("__classdict__" : Str)) = false := by
  unfold nameOk at h
  simp only [Bool.and_eq_true, Bool.not_eq_true'] at h
  exact h
def slotB (N : List Str) (i : Nat) (x : Str) : Bool := match N[i]? with
  | some y => y == x
  | none => false
theorem slot_of {N : List Str} {i : Nat} {x : Str} (h : slotB N i x = true) : N[i]? = some x := by
  unfold slotB at h
  split at h
  · rename_i y hy
    rw [hy, eq_of_beq h]
  · cases h
/-! ### targets -/
def fnB (sc : Scope) (fn : Str → Bool) (x : Str) : Bool := fn x || match sc.names.lookup x with
  | some .local => true
  | _ => false
theorem fn_of' {sc : Scope} {fn : Str → Bool} {x : Str} (h : fnB sc fn x = true) : fn x = true ∨ sc.names.lookup x = some .local := by
  unfold fnB at h
  simp only [Bool.or_eq_true] at h
  rcases h with h | h
  · exact .inl h
  · split at h
    · exact .inr (by assumption)
    · cases h
mutual
def chkT (N : List Str) (sc : Scope) (fn : Str → Bool) : Tg → Expr → Bool
  | .n i, e => match e with
    | .Name x _ => slotB N i x && locB sc x && fnB sc fn x
    | _ => false
  | .t ts, e => match e with
    | .Tuple es _ _ => chkTs N sc fn ts es && es.all notStar && decide (ts.length = es.length)
    | _ => false
def chkTs (N : List Str) (sc : Scope) (fn : Str → Bool) : List Tg → List Expr → Bool
  | [], es => match es with
    | [] => true
    | _ => false
  | t :: ts, es => match es with
    | e :: es => chkT N sc fn t e && chkTs N sc fn ts es && notStar e
    | _ => false
end
mutual
theorem sndT {X : Cx} (hc : X.calm = true) (hN : X.N.Nodup) : ∀ (t : Tg) (e : Expr), chkT X.N X.env.scope X.fn t e = true → SG X e t
  | .n i, e, h => by
    simp only [chkT] at h
    split at h
    · simp only [Bool.and_eq_true] at h
      exact SG.name hN (slot_of h.1.1) h.1.2 (fn_of' h.2)
    · cases h
  | .t ts, e, h => by
    simp only [chkT] at h
    split at h
    · simp only [Bool.and_eq_true, decide_eq_true_eq] at h
      exact SG.tup hc (sndTs hc hN ts _ h.1.1) h.1.2 h.2
    · cases h
theorem sndTs {X : Cx} (hc : X.calm = true) (hN : X.N.Nodup) : ∀ (t : List Tg) (e : List Expr), chkTs X.N X.env.scope X.fn t e = true → SGs X e t
  | [], e, h => by
    simp only [chkTs] at h
    split at h
    · exact SGs.nil
    · cases h
  | t :: ts, e, h => by
    simp only [chkTs] at h
    split at h
    · simp only [Bool.and_eq_true] at h
      exact SGs.cons (sndT hc hN t _ h.1.1) (sndTs hc hN ts _ h.1.2) h.2
    · cases h
end
theorem sndL {X : Cx} (hc : X.calm = true) (hN : X.N.Nodup) (t : Tg) {es : List Expr} {k : Nat} {p : Pos} (h : chkT X.N X.env.scope X.fn t (.Tuple es k p) = true) : SGL X (.Tuple es k p) t := by
  cases t with
  | n i => simp only [chkT] at h; cases h
  | t ts =>
    simp only [chkT, Bool.and_eq_true, decide_eq_true_eq] at h
    exact SGL.tup hc (sndTs hc hN ts _ h.1.1) h.1.2 h.2

/-! ### expressions -/
def tsB : E → Bool
  | .ite _ _ _ => false
  | .fz _ => false
  | _ => true
def inFns (G : Glb) (f : Str) (n : Nat) : Bool := G.fns.any fun p => p.1 == f && p.2 == n
theorem inFns_of {G : Glb} {f : Str} {n : Nat} (h : inFns G f n = true) : (f, n) ∈ G.fns := by
  unfold inFns at h
  obtain ⟨p, hp, h⟩ := List.any_eq_true.mp h
  simp only [Bool.and_eq_true] at h
  have h1 := eq_of_beq h.1
  have h2 := eq_of_beq h.2
  rw [← h1, ← h2]
  exact hp
mutual
def valB : Val → Val → Bool
  | .non, .non => true
  | .bl a, .bl b => a == b
  | .int a, .int b => a == b
  | .str a, .str b => a == b
  | .tup a, .tup b => valBs a b
  | .fls a, .fls b => valBs a b
  | _, _ => false
def valBs : List Val → List Val → Bool
  | [], [] => true
  | x :: xs, y :: ys => valB x y && valBs xs ys
  | _, _ => false
end
mutual
theorem valB_eq : ∀ (x y : Val), valB x y = true → x = y
  | .non, y, h => by cases y <;> first | rfl | (simp [valB] at h)
  | .bl a, y, h => by cases y <;> first | (simp [valB] at h; done) | (simp [valB] at h; rw [h])
  | .int a, y, h => by cases y <;> first | (simp [valB] at h; done) | (simp [valB] at h; rw [h])
  | .str a, y, h => by cases y <;> first | (simp [valB] at h; done) | (simp only [valB] at h; rw [eq_of_beq h])
  | .tup a, y, h => by cases y <;> first | (simp [valB] at h; done) | (simp only [valB] at h; rw [valBs_eq _ _ h])
  | .fls a, y, h => by cases y <;> first | (simp [valB] at h; done) | (simp only [valB] at h; rw [valBs_eq _ _ h])
  | .ref a, y, h => by cases y <;> simp [valB] at h
theorem valBs_eq : ∀ (x y : List Val), valBs x y = true → x = y
  | [], y, h => by cases y <;> first | rfl | (simp [valBs] at h)
  | a :: x, y, h => by
    cases y with
    | nil => simp [valBs] at h
    | cons b y =>
      simp only [valBs, Bool.and_eq_true] at h
      rw [valB_eq a b h.1, valBs_eq x y h.2]
end
def inCons (G : Glb) (f : Str) (v : Val) : Bool := G.cons.any fun p => p.1 == f && valB p.2 v
theorem inCons_of {G : Glb} {f : Str} {v : Val} (h : inCons G f v = true) : (f, v) ∈ G.cons := by
  unfold inCons at h
  obtain ⟨p, hp, h⟩ := List.any_eq_true.mp h
  simp only [Bool.and_eq_true] at h
  rw [← eq_of_beq h.1, ← valB_eq _ _ h.2]
  exact hp
def cstB (x : Val) (k : Const) : Bool := match cstPy x with
  | some c => decide (c = k)
  | none => false
theorem cst_of {x : Val} {k : Const} (h : cstB x k = true) : cstPy x = some k := by
  unfold cstB at h
  split at h
  · rename_i c hc
    rw [hc, of_decide_eq_true h]
  · cases h
def negOne : Expr → Bool
  | .UnaryOp .USub (.Constant (.int 1) _ _) _ => true
  | _ => false
def subB (l vs : List Nat) : Bool := l.all fun j => vs.contains j
theorem sub_of {l vs : List Nat} (h : subB l vs = true) : ∀ j ∈ l, j ∈ vs := fun j hj => List.contains_iff_mem.mp (List.all_eq_true.mp h j hj)
def ownN (N : List Str) (own : List Nat) : List (Str × Nat) := own.map fun i => ((N[i]?).getD "", i)
theorem ownN_snd (N : List Str) (own : List Nat) : (ownN N own).map (·.2) = own := by
  unfold ownN
  rw [List.map_map]
  exact List.map_id own
section
variable (G : Glb) (N : List Str)
mutual
def chkE : E → Scope → Expr → Bool
  | .var i, sc, e => match e with
    | .Name x _ => slotB N i x && visB sc x && nameOk x
    | _ => false
  | .cst x, _, e => match e with
    | .Constant k _ _ => cstB x k
    | _ => false
  | .glb x v, sc, e => match e with
    | .Name y _ => y == x && inCons G x v && glB sc x && nameOk x
    | _ => false
  | .tup es, sc, e => match e with
    | .Tuple l _ _ => chkA es sc l && decide (es.len ≤ 1000)
    | _ => false
  | .lst es, sc, e => match e with
    | .List l _ => chkA es sc l && decide (es.len ≤ 1000)
    | _ => false
  | .dic0, _, e => match e with
    | .Dict [] [] _ => true
    | _ => false
  | .join m a, sc, e => match e with
    | .Call (.Attribute (.Constant (.str y) _ _) j apos) [x] [] pos => y == m && j == ("join" : Str) && chkE a sc x && notStar x && (apos.endLine == pos.line)
    | _ => false
  | .maxd a d, sc, e => match e with
    | .Call (.Name f _) [x] [⟨some k, .Constant (.int y) _ _, _⟩] _ => f == ("max" : Str) && k == ("default" : Str) && decide (y = d) && chkE a sc x && notStar x && glB sc "max"
    | _ => false
  | .bin o a b, sc, e => match e with
    | .BinOp l op r _ => decide (op = opPy o) && chkE a sc l && chkE b sc r
    | _ => false
  | .neg a, sc, e => match e with
    | .UnaryOp .USub x _ => chkE a sc x
    | _ => false
  | .cmp o a b, sc, e => match e with
    | .Compare l [op] [r] _ => decide (op = cmpPy o) && chkE a sc l && chkE b sc r && notSet r
    | _ => false
  | .and a b, sc, e => match e with
    | .BoolOp .And (x :: y :: rest) pos => tsB a && tsB b && chkE a sc x && (match rest with
      | [] => chkE b sc y
      | _ => chkE b sc (.BoolOp .And (y :: rest) pos))
    | _ => false
  | .or a b, sc, e => match e with
    | .BoolOp .Or (x :: y :: rest) pos => tsB a && tsB b && chkE a sc x && (match rest with
      | [] => chkE b sc y
      | _ => chkE b sc (.BoolOp .Or (y :: rest) pos))
    | _ => false
  | .not a, sc, e => match e with
    | .UnaryOp .Not x _ => tsB a && chkE a sc x
    | _ => false
  | .ite c a b, sc, e => match e with
    | .IfExp t x y _ => tsB c && chkE c sc t && chkE a sc x && chkE b sc y
    | _ => false
  | .call f es, sc, e => match e with
    | .Call (.Name g _) (x :: xs) [] _ => g == f && inFns G f es.len && chkA es sc (x :: xs) && (x :: xs).all notStar && glB sc f && nameOk f
    | _ => false
  | .blt f es, sc, e => match e with
    | .Call (.Name g _) (x :: xs) [] _ => g == bfName f && chkA es sc (x :: xs) && (x :: xs).all notStar && glB sc (bfName f)
    | _ => false
  | .isi a t, sc, e => match e with
    | .Call (.Name g _) [x, .Name y _] [] _ => g == "isinstance" && y == Str.ofString t.name && chkE a sc x && notStar x && glB sc "isinstance" && glB sc (Str.ofString t.name)
    | _ => false
  | .isiT a ts, sc, e => match e with
    | .Call (.Name g _) [x, .Tuple ys _ _] [] _ => g == "isinstance" && tyPy ts ys && chkE a sc x && notStar x && glB sc "isinstance" && (ts.all fun t => glB sc (Str.ofString t.name)) && decide (ts.length ≤ 1000)
    | _ => false
  | .fz a, sc, e => match e with
    | .BoolOp _ _ _ => false
    | _ => chkE a sc e
  | .call0 f, sc, e => match e with
    | .Call (.Name g _) [] [] _ => g == f && inFns G f 0 && glB sc f && nameOk f
    | _ => false
  | .met m o es, sc, e => match e with
    | .Call (.Attribute x y ap) xs [] p => y == mfName m && chkE o sc x && chkA es sc xs && plainBase x && (ap.endLine == p.line) && xs.all notStar && decide (xs.length < 30)
    | _ => false
  | .ext o a, sc, e => match e with
    | .Call (.Attribute x y ap) [z] [] p => y == "extend" && chkE o sc x && chkE a sc z && plainBase x && (ap.endLine == p.line) && notStar z
    | _ => false
  | .ix a i, sc, e => match e with
    | .Subscript x y _ => chkE a sc x && chkE i sc y && notSlice y
    | _ => false
  | .sl a lo hi, sc, e => match e with
    | .Subscript x (.Slice l h none _) _ => chkE a sc x && chkO lo sc l && chkO hi sc h
    | _ => false
  | .rev a, sc, e => match e with
    | .Subscript x (.Slice none none (some s) _) _ => chkE a sc x && negOne s
    | _ => false
  | .rep a b, sc, e => match e with
    | .BinOp l op r _ => decide (op = .Mult) && chkE a sc l && chkE b sc r
    | _ => false
  | .comp own tg it c el, sc, e => match e with
    | .ListComp elt [⟨tg0, iter, ifs, as⟩] scope _ => decide (as = 0) && chkI it sc tg0 iter && blkC N sc scope (ownN N own) && subB (tgSl tg) own && chkT N (relS scope sc) (fun x => scope.names.lookup x == some .cell) tg tg0 && chkC c (relS scope sc) ifs && chkE el (relS scope sc) elt && notSet iter
    | _ => false
def chkA : Es → Scope → List Expr → Bool
  | .nil, _, l => match l with
    | [] => true
    | _ => false
  | .cons a r, sc, l => match l with
    | x :: xs => chkE a sc x && chkA r sc xs && notStar x
    | _ => false
def chkO : Eo → Scope → Option Expr → Bool
  | .none, _, o => o.isNone
  | .some a, sc, o => match o with
    | some x => chkE a sc x
    | none => false
def chkC : Eo → Scope → List Expr → Bool
  | .none, _, l => l.isEmpty
  | .some a, sc, l => match l with
    | [x] => tsB a && chkE a sc x
    | _ => false
def chkI : It → Scope → Expr → Expr → Bool
  | .e a, sc, _, e => chkE a sc e
  | .rg1 a, sc, _, e => match e with
    | .Call (.Name g _) [x] [] _ => g == "range" && chkE a sc x && notStar x && glB sc "range"
    | _ => false
  | .rg2 a b, sc, _, e => match e with
    | .Call (.Name g _) [x, y] [] _ => g == "range" && chkE a sc x && chkE b sc y && notStar x && notStar y && glB sc "range"
    | _ => false
  | .enum a, sc, tg, e => match tg, e with
    | .Tuple _ _ _, .Call (.Name g _) [x] [] _ => g == "enumerate" && chkE a sc x && notStar x && glB sc "enumerate"
    | _, _ => false
  | .zip a b, sc, tg, e => match tg, e with
    | .Tuple _ _ _, .Call (.Name g _) [x, y] [] _ => g == "zip" && chkE a sc x && chkE b sc y && notStar x && notStar y && glB sc "zip"
    | _, _ => false
  | .rvr a, sc, tg, it => match it with
    | .Call (.Name f _) [.Call (.Name r _) [x] [] _] [] _ => f == ("reversed" : Str) && r == ("range" : Str) && chkE a sc x && notStar x && glB sc "range" && glB sc "reversed"
    | _ => false
  | .rv a, sc, _, e => match e with
    | .Call (.Name g _) [x] [] _ => g == "reversed" && chkE a sc x && notStar x && glB sc "reversed"
    | _ => false
end
end
theorem Gd.blk {X : Cx} {G : Glb} {T : Fns} {W : WX} (g : Gd X G T W) (scope : Scope) (s : Shared) (H : Hp) (C : Addr) (cl : List (Str × Addr)) (fp : List Addr) : Gd (Blk X scope s H C cl fp) G T W0 :=
  ⟨g.calm, g.nd, g.un, takes0, g.blt, g.fns, g.cons, g.exc⟩
def SPWc (X : Cx) (T : Fns) (W : WX) (e : Expr) (e' : E) : Prop := match e with
  | .BoolOp _ _ _ => SPW X T W e e'
  | _ => True
/-- what is shown of an expression -/
structure Snd (X : Cx) (T : Fns) (W : WX) (e : Expr) (e' : E) : Prop where
  se : SE X T W e e'
  st : tsB e' = true → ST X T W e e'
  pw : SPWc X T W e e'
end Fe

namespace Fe
open PySem L2
section
variable {G : Glb} {T : Fns}
theorem Snd.plain {X : Cx} {W : WX} {e : Expr} {e' : E} (h : SE X T W e e') (hp : plainT e = true) (ht : evT T e' = tst (evE T e')) (hb : SPWc X T W e e') : Snd X T W e e' := ⟨h, fun _ => ST.val h hp ht, hb⟩
mutual
theorem sndE : ∀ (e' : E) (X : Cx) (W : WX) (e : Expr), Gd X G T W → chkE G X.N e' X.env.scope e = true → Snd X T W e e'
  | .var i, X, W, e, g, h => by
    simp only [chkE] at h
    split at h
    · simp only [Bool.and_eq_true] at h
      obtain ⟨h1, h2⟩ := nameOk_of h.2
      exact .plain (SE.var (slot_of h.1.1) h.1.2 h1 h2) rfl rfl trivial
    · cases h
  | .cst x, X, W, e, g, h => by
    simp only [chkE] at h
    split at h
    · exact .plain (SE.cst (cst_of h)) rfl rfl trivial
    · cases h
  | .glb x v, X, W, e, g, h => by
    simp only [chkE] at h
    split at h
    · simp only [Bool.and_eq_true] at h
      obtain ⟨⟨⟨h1, h2⟩, h3⟩, h4⟩ := h
      rw [eq_of_beq h1]
      exact .plain (SE.glb g (inCons_of h2) h3 (nameOk_of h4).1) rfl rfl trivial
    · cases h
  | .tup es, X, W, e, g, h => by
    simp only [chkE] at h
    split at h
    · simp only [Bool.and_eq_true, decide_eq_true_eq] at h
      exact .plain (SE.tup (sndA es X W _ g h.1) h.2) rfl rfl trivial
    · cases h
  | .lst es, X, W, e, g, h => by
    simp only [chkE] at h
    split at h
    · simp only [Bool.and_eq_true, decide_eq_true_eq] at h
      exact .plain (SE.lst (sndA es X W _ g h.1) h.2) rfl rfl trivial
    · cases h
  | .dic0, X, W, e, g, h => by
    simp only [chkE] at h
    split at h
    · exact .plain SE.dic0 rfl rfl trivial
    · cases h
  | .join m a, X, W, e, g, h => by
    simp only [chkE] at h
    split at h
    · simp only [Bool.and_eq_true] at h
      obtain ⟨⟨⟨⟨h1, h2⟩, h3⟩, h4⟩, h5⟩ := h
      rw [eq_of_beq h1, eq_of_beq h2]
      exact .plain (SE.join (sndE a X W _ g h3).se h4 h5) rfl rfl trivial
    · cases h
  | .maxd a d, X, W, e, g, h => by
    simp only [chkE] at h
    split at h
    · simp only [Bool.and_eq_true, decide_eq_true_eq] at h
      obtain ⟨⟨⟨⟨⟨h1, h2⟩, h3⟩, h4⟩, h5⟩, h6⟩ := h
      rw [eq_of_beq h1, eq_of_beq h2, h3]
      exact .plain (SE.maxd g (sndE a X W _ g h4).se h5 h6) rfl rfl trivial
    · cases h
  | .bin o a b, X, W, e, g, h => by
    simp only [chkE] at h
    split at h
    · simp only [Bool.and_eq_true, decide_eq_true_eq] at h
      obtain ⟨⟨h1, h2⟩, h3⟩ := h
      subst h1
      exact .plain (SE.bin (sndE a X W _ g h2).se (sndE b X W _ g h3).se) rfl rfl trivial
    · cases h
  | .neg a, X, W, e, g, h => by
    simp only [chkE] at h
    split at h
    · exact .plain (SE.neg (sndE a X W _ g h).se) rfl rfl trivial
    · cases h
  | .cmp o a b, X, W, e, g, h => by
    simp only [chkE] at h
    split at h
    · simp only [Bool.and_eq_true, decide_eq_true_eq] at h
      obtain ⟨⟨⟨h1, h2⟩, h3⟩, h4⟩ := h
      subst h1
      exact ⟨SE.cmp g (sndE a X W _ g h2).se (sndE b X W _ g h3).se h4, fun _ => ST.cmp g (sndE a X W _ g h2).se (sndE b X W _ g h3).se h4, trivial⟩
    · cases h
  | .and a b, X, W, e, g, h => by
    simp only [chkE] at h
    split at h
    · rename_i x y rest pos
      simp only [Bool.and_eq_true] at h
      obtain ⟨⟨⟨t1, t2⟩, h1⟩, h2⟩ := h
      have ha := sndE a X W _ g h1
      split at h2
      · have hb := sndE b X W _ g h2
        have hp : SPW X T W (.BoolOp .And [x, y] pos) (.and a b) := SPW.and (ha.st t1) (SPW.one .And (hb.st t2))
        exact ⟨SE.and ha.se (SE.one hb.se), fun _ => hp.st, hp⟩
      · have hb := sndE b X W _ g h2
        have hp : SPW X T W (.BoolOp .And (x :: y :: rest) pos) (.and a b) := SPW.and (ha.st t1) hb.pw
        exact ⟨SE.and ha.se hb.se, fun _ => hp.st, hp⟩
    · cases h
  | .or a b, X, W, e, g, h => by
    simp only [chkE] at h
    split at h
    · rename_i x y rest pos
      simp only [Bool.and_eq_true] at h
      obtain ⟨⟨⟨t1, t2⟩, h1⟩, h2⟩ := h
      have ha := sndE a X W _ g h1
      split at h2
      · have hb := sndE b X W _ g h2
        have hp : SPW X T W (.BoolOp .Or [x, y] pos) (.or a b) := SPW.or (ha.st t1) (SPW.one .Or (hb.st t2))
        exact ⟨SE.or ha.se (SE.one hb.se), fun _ => hp.st, hp⟩
      · have hb := sndE b X W _ g h2
        have hp : SPW X T W (.BoolOp .Or (x :: y :: rest) pos) (.or a b) := SPW.or (ha.st t1) hb.pw
        exact ⟨SE.or ha.se hb.se, fun _ => hp.st, hp⟩
    · cases h
  | .not a, X, W, e, g, h => by
    simp only [chkE] at h
    split at h
    · simp only [Bool.and_eq_true] at h
      have ha := sndE a X W _ g h.2
      exact ⟨SE.not ha.se, fun _ => ST.not (ha.st h.1), trivial⟩
    · cases h
  | .ite c a b, X, W, e, g, h => by
    simp only [chkE] at h
    split at h
    · simp only [Bool.and_eq_true] at h
      obtain ⟨⟨⟨t1, h1⟩, h2⟩, h3⟩ := h
      exact ⟨SE.ite ((sndE c X W _ g h1).st t1) (sndE a X W _ g h2).se (sndE b X W _ g h3).se, (fun z => nomatch z), trivial⟩
    · cases h
  | .call f es, X, W, e, g, h => by
    simp only [chkE] at h
    split at h
    · simp only [Bool.and_eq_true] at h
      obtain ⟨⟨⟨⟨⟨h1, h2⟩, h3⟩, h4⟩, h5⟩, h6⟩ := h
      rw [eq_of_beq h1]
      exact .plain (SE.call g (inFns_of h2) (sndA es X W _ g h3) (by simpa using h4) h5 (nameOk_of h6).1 rfl) rfl rfl trivial
    · cases h
  | .blt f es, X, W, e, g, h => by
    simp only [chkE] at h
    split at h
    · simp only [Bool.and_eq_true] at h
      obtain ⟨⟨⟨h1, h2⟩, h3⟩, h4⟩ := h
      rw [eq_of_beq h1]
      exact .plain (SE.blt g (sndW es X W _ g h2) (by simpa using h3) h4) rfl rfl trivial
    · cases h
  | .isi a t, X, W, e, g, h => by
    simp only [chkE] at h
    split at h
    · simp only [Bool.and_eq_true] at h
      obtain ⟨⟨⟨⟨⟨h1, h2⟩, h4⟩, h5⟩, h6⟩, h7⟩ := h
      rw [eq_of_beq h1, eq_of_beq h2]
      exact .plain (SE.isi g (sndE a X W _ g h4).se h5 h6 h7) rfl rfl trivial
    · cases h
  | .isiT a ts, X, W, e, g, h => by
    simp only [chkE] at h
    split at h
    · simp only [Bool.and_eq_true, decide_eq_true_eq] at h
      obtain ⟨⟨⟨⟨⟨⟨h1, h2⟩, h3⟩, h4⟩, h5⟩, h6⟩, h7⟩ := h
      rw [eq_of_beq h1]
      exact .plain (SE.isiT g (sndE a X W _ g h3).se h4 h5 h2 h6 h7) rfl rfl trivial
    · cases h
  | .fz a, X, W, e, g, h => by
    simp only [chkE] at h
    split at h
    · cases h
    · rename_i hne
      refine ⟨SE.fz (sndE a X W _ g h).se, (fun z => by cases z), ?_⟩
      cases e <;> first | trivial | exact absurd rfl (hne _ _ _)
  | .call0 f, X, W, e, g, h => by
    simp only [chkE] at h
    split at h
    · simp only [Bool.and_eq_true] at h
      obtain ⟨⟨⟨h1, h2⟩, h3⟩, h4⟩ := h
      rw [eq_of_beq h1]
      exact .plain (SE.call0 g (inFns_of h2) h3 (nameOk_of h4).1) rfl rfl trivial
    · cases h
  | .met m o es, X, W, e, g, h => by
    simp only [chkE] at h
    split at h
    · rename_i x y ap xs p
      simp only [Bool.and_eq_true, decide_eq_true_eq] at h
      obtain ⟨⟨⟨⟨⟨⟨h1, h2⟩, h3⟩, h4⟩, h5⟩, h6⟩, h7⟩ := h
      rw [eq_of_beq h1]
      cases xs with
      | nil =>
        cases es with
        | nil => exact .plain (SE.met0 (sndE o X W _ g h2).se h4 h5) rfl rfl trivial
        | cons a r => cases h3
      | cons z zs => exact .plain (SE.met (sndE o X W _ g h2).se (sndA es X W _ g h3) h4 h5 h6 h7) rfl rfl trivial
    · cases h
  | .ext o a, X, W, e, g, h => by
    simp only [chkE] at h
    split at h
    · simp only [Bool.and_eq_true] at h
      obtain ⟨⟨⟨⟨⟨h1, h2⟩, h3⟩, h4⟩, h5⟩, h6⟩ := h
      rw [eq_of_beq h1]
      exact .plain (SE.ext (sndE o X W _ g h2).se (sndE a X W _ g h3).se h4 h5 h6) rfl rfl trivial
    · cases h
  | .ix a i, X, W, e, g, h => by
    simp only [chkE] at h
    split at h
    · simp only [Bool.and_eq_true] at h
      exact .plain (SE.ix (sndE a X W _ g h.1.1).se (sndE i X W _ g h.1.2).se h.2) rfl rfl trivial
    · cases h
  | .sl a lo hi, X, W, e, g, h => by
    simp only [chkE] at h
    split at h
    · simp only [Bool.and_eq_true] at h
      exact .plain (SE.sl (sndE a X W _ g h.1.1).se (sndO lo X W _ g h.1.2) (sndO hi X W _ g h.2)) rfl rfl trivial
    · cases h
  | .rep a b, X, W, e, g, h => by
    simp only [chkE] at h
    split at h
    · simp only [Bool.and_eq_true, decide_eq_true_eq] at h
      obtain ⟨⟨h1, h2⟩, h3⟩ := h
      subst h1
      exact .plain (SE.rep (sndE a X W _ g h2).se (sndE b X W _ g h3).se) rfl rfl trivial
    · cases h
  | .rev a, X, W, e, g, h => by
    simp only [chkE] at h
    split at h
    · simp only [Bool.and_eq_true] at h
      obtain ⟨h1, h2⟩ := h
      unfold negOne at h2
      split at h2
      · exact .plain (SE.rev (sndE a X W _ g h1).se) rfl rfl trivial
      · cases h2
    · cases h
  | .comp own tg it c el, X, W, e, g, h => by
    simp only [chkE] at h
    split at h
    · simp only [Bool.and_eq_true, decide_eq_true_eq] at h
      obtain ⟨⟨⟨⟨⟨⟨⟨h0, h1⟩, h2⟩, h3⟩, h4⟩, h5⟩, h6⟩, h7⟩ := h
      subst h0
      exact .plain (SE.comp g (sndI it X W _ _ g h1) h2 (ownN_snd _ _) (sub_of h3) (fun s H C cl fp => sndT (X := Blk X _ s H C cl fp) g.calm g.nd tg _ h4) (fun s H C cl fp => sndC c (Blk X _ s H C cl fp) W0 _ (g.blk _ s H C cl fp) h5) (fun s H C cl fp => (sndE el (Blk X _ s H C cl fp) W0 _ (g.blk _ s H C cl fp) h6).se) h7) rfl rfl trivial
    · cases h
theorem sndA : ∀ (es' : Es) (X : Cx) (W : WX) (es : List Expr), Gd X G T W → chkA G X.N es' X.env.scope es = true → SA X T W es es'
  | .nil, X, W, es, g, h => by
    simp only [chkA] at h
    split at h
    · exact SA.nil
    · cases h
  | .cons a r, X, W, es, g, h => by
    simp only [chkA] at h
    split at h
    · simp only [Bool.and_eq_true] at h
      exact SA.cons (sndE a X W _ g h.1.1).se (sndA r X W _ g h.1.2) h.2
    · cases h
theorem sndW : ∀ (es' : Es) (X : Cx) (W : WX) (es : List Expr), Gd X G T W → chkA G X.N es' X.env.scope es = true → SW X T W es es'
  | .nil, X, W, es, g, h => by
    simp only [chkA] at h
    split at h
    · exact SW.nil
    · cases h
  | .cons a r, X, W, es, g, h => by
    simp only [chkA] at h
    split at h
    · simp only [Bool.and_eq_true] at h
      exact SW.cons (sndE a X W _ g h.1.1).se (sndW r X W _ g h.1.2) h.2
    · cases h
theorem sndO : ∀ (e' : Eo) (X : Cx) (W : WX) (e : Option Expr), Gd X G T W → chkO G X.N e' X.env.scope e = true → SO X T W e e'
  | .none, X, W, e, g, h => by
    cases e with
    | none => exact SO.none
    | some _ => cases h
  | .some a, X, W, e, g, h => by
    simp only [chkO] at h
    split at h
    · exact SO.some (sndE a X W _ g h).se
    · cases h
theorem sndC : ∀ (e' : Eo) (X : Cx) (W : WX) (e : List Expr), Gd X G T W → chkC G X.N e' X.env.scope e = true → STs X T W e e'
  | .none, X, W, e, g, h => by
    cases e with
    | nil => exact STs.nil
    | cons _ _ => cases h
  | .some a, X, W, e, g, h => by
    simp only [chkC] at h
    split at h
    · simp only [Bool.and_eq_true] at h
      exact STs.one ((sndE a X W _ g h.2).st h.1)
    · cases h
theorem sndI : ∀ (it' : Fe.It) (X : Cx) (W : WX) (tg it : Expr), Gd X G T W → chkI G X.N it' X.env.scope tg it = true → SI X T W tg it it'
  | .e a, X, W, tg, it, g, h => by
    simp only [chkI] at h
    exact SI.list (sndE a X W _ g h).se
  | .rg1 a, X, W, tg, it, g, h => by
    simp only [chkI] at h
    split at h
    · simp only [Bool.and_eq_true] at h
      obtain ⟨⟨⟨h1, h2⟩, h3⟩, h4⟩ := h
      rw [eq_of_beq h1]
      exact SI.range1 g (sndE a X W _ g h2).se h3 h4
    · cases h
  | .rg2 a b, X, W, tg, it, g, h => by
    simp only [chkI] at h
    split at h
    · simp only [Bool.and_eq_true] at h
      obtain ⟨⟨⟨⟨⟨h1, h2⟩, h3⟩, h4⟩, h5⟩, h6⟩ := h
      rw [eq_of_beq h1]
      exact SI.range2 g (sndE a X W _ g h2).se (sndE b X W _ g h3).se h4 h5 h6
    · cases h
  | .enum a, X, W, tg, it, g, h => by
    simp only [chkI] at h
    split at h
    · simp only [Bool.and_eq_true] at h
      obtain ⟨⟨⟨h1, h2⟩, h3⟩, h4⟩ := h
      rw [eq_of_beq h1]
      exact SI.enum g (sndE a X W _ g h2).se h3 h4
    · cases h
  | .zip a b, X, W, tg, it, g, h => by
    simp only [chkI] at h
    split at h
    · simp only [Bool.and_eq_true] at h
      obtain ⟨⟨⟨⟨⟨h1, h2⟩, h3⟩, h4⟩, h5⟩, h6⟩ := h
      rw [eq_of_beq h1]
      exact SI.zip g (sndE a X W _ g h2).se (sndE b X W _ g h3).se h4 h5 h6
    · cases h
  | .rvr a, X, W, tg, it, g, h => by
    simp only [chkI] at h
    split at h
    · simp only [Bool.and_eq_true] at h
      obtain ⟨⟨⟨⟨⟨h1, h2⟩, h3⟩, h4⟩, h5⟩, h6⟩ := h
      rw [eq_of_beq h1, eq_of_beq h2]
      exact SI.rvr g (sndE a X W _ g h3).se h4 h5 h6
    · cases h
  | .rv a, X, W, tg, it, g, h => by
    simp only [chkI] at h
    split at h
    · simp only [Bool.and_eq_true] at h
      obtain ⟨⟨⟨h1, h2⟩, h3⟩, h4⟩ := h
      rw [eq_of_beq h1]
      exact SI.rv g (sndE a X W _ g h2).se h3 h4
    · cases h
end
end
end Fe

/-! Fe9y: what stands in a handler: tests of the error's class, lists of them -/
namespace Fe
open PySem L2
def xF : WX := fun _ _ _ _ => False
def HoldsE (i : Nat) (ad : Addr) (σ : St) : Prop := σ[i]? = some (some (V.ref ad))
def SEc (Y : Cx) (T : Fns) (i : Nat) (ad : Addr) (e : Expr) (e' : E) : Prop := ∃ t, PE Y e t ∧ ∀ ρ σ env H S Q, HoldsE i ad σ → RE Y.K ρ H σ env → RS Y.K ρ H S → OutE Y.K ρ H (wAt xF σ) Q (evE T e' env S) → t σ H Q
def SAc (Y : Cx) (T : Fns) (i : Nat) (ad : Addr) (e : List Expr) (e' : Es) : Prop := ∃ t, PA Y e t ∧ ∀ ρ σ env H S Q, HoldsE i ad σ → RE Y.K ρ H σ env → RS Y.K ρ H S → OutA Y.K ρ H (wAt xF σ) Q (evA T e' env S) → t σ H Q
def Ends.c (D : Ends) (i : Nat) (ad : Addr) : Ends := { nx := fun σ H => HoldsE i ad σ → D.nx σ H, rt := D.rt, bk := D.bk, ct := D.ct }
def SSc (Y : Cx) (T : Fns) (i : Nat) (ad : Addr) (st : Stmt) (c : C) : Prop := ∃ t, PS Y st t ∧ ∀ ρ σ env H S D, HoldsE i ad σ → RE Y.K ρ H σ env → RS Y.K ρ H S → OutS Y.K ρ H xF (Ends.c D i ad) (evS T c env S) → t D σ H
def SBc (Y : Cx) (T : Fns) (i : Nat) (ad : Addr) (st : List Stmt) (c : Cs) : Prop := ∃ t, PSs Y st t ∧ ∀ ρ σ env H S D, HoldsE i ad σ → RE Y.K ρ H σ env → RS Y.K ρ H S → OutS Y.K ρ H xF (Ends.c D i ad) (evB T c env S) → t D σ H
section
variable {Y : Cx} {T : Fns} {i : Nat} {ad : Addr} {pos : Pos} {e a b c o : Expr} {a' b' c' o' : E} {es rest : List Expr} {es' : Es}
theorem SE.toC (h : SE Y T xF e a') : SEc Y T i ad e a' := let ⟨t, p, s⟩ := h; ⟨t, p, fun ρ σ env H S Q _ => s ρ σ env H S Q⟩
theorem SAc.nil : SAc Y T i ad [] .nil := ⟨_, pa_nil, fun ρ σ env H S Q _ he hs h => h ρ H Ext.refl hs [] .nil⟩
theorem SAc.cons (ha : SEc Y T i ad e a') (hr : SAc Y T i ad es es') (hn : notStar e = true) : SAc Y T i ad (e :: es) (.cons a' es') := by
  obtain ⟨t, p, s⟩ := ha
  obtain ⟨t2, p2, s2⟩ := hr
  refine ⟨_, pa_cons p p2 (star_cons _ hn), fun ρ σ env H S Q hc he hs h => ?_⟩
  refine s ρ σ env H S _ hc he hs ((OutE.bnd0 h).imp fun v H1 ⟨x, S1, ρ1, po, h1⟩ => ?_)
  obtain ⟨ρ2, pv⟩ := po.lay
  have h2 : OutA Y.K ρ2 H1 (wAt xF σ) (fun vs H2 => Q (v :: vs) H2) (evA T es' env (Fe.lay x S1).2) := by
    refine OutG.imp (OutG.bnd (OutG.mono pv.ext h1)) fun xs ρ3 H3 S3 _ e3 R3 q vs hv => ?_
    exact q ρ3 H3 Ext.refl R3 (v :: vs) (.cons (pv.rel.ext pv.sto e3) hv)
  exact s2 ρ2 σ env H1 _ _ hc (he.ext hs pv.ext) pv.sto h2
theorem SEc.lst (hr : SAc Y T i ad es es') (hl : es'.len ≤ 1000) : SEc Y T i ad (.List es pos) (.lst es') := by
  obtain ⟨t, p, s⟩ := hr
  refine ⟨_, pe_lst p, fun ρ σ env H S Q hc he hs h => ?_⟩
  refine s ρ σ env H S _ hc he hs (OutG.imp (OutG.toE h) fun xs ρ1 H1 S1 eq e1 R1 q vs hv => ?_)
  refine ⟨?_, fun p hp => q.lst R1 hv hp⟩
  rw [hv.length, evA_len es' env S xs S1 eq]
  exact Nat.le_of_lt (small1000 hl)
theorem SEc.one {op : PySem.BoolOp} (h : SEc Y T i ad a a') : SEc Y T i ad (.BoolOp op [a] pos) a' := let ⟨t, p, s⟩ := h; ⟨t, pe_one p, s⟩
theorem SEc.and (ha : SEc Y T i ad a a') (hb : SEc Y T i ad (.BoolOp .And (b :: rest) pos) b') : SEc Y T i ad (.BoolOp .And (a :: b :: rest) pos) (.and a' b') := by
  obtain ⟨t, p, s⟩ := ha
  obtain ⟨t2, p2, s2⟩ := hb
  refine ⟨_, pe_andT p p2, fun ρ σ env H S Q hc he hs h => ?_⟩
  refine s ρ σ env H S _ hc he hs ((OutE.bndE0 h).imp fun v H1 ⟨x, S1, ρ1, po, h1⟩ => ?_)
  cases q : truR S1 x with
  | none => rw [q] at h1; exact h1.elim
  | some k =>
    rw [q] at h1
    refine ⟨k, tru_snd po.sto po.rel q, ?_⟩
    cases k with
    | true => exact s2 ρ1 σ env H1 S1 Q hc (he.ext hs po.ext) po.sto (OutE.mono po.ext h1)
    | false => exact OutE.post po h1
theorem SEc.not (ha : SEc Y T i ad a a') : SEc Y T i ad (.UnaryOp .Not a pos) (.not a') := by
  obtain ⟨t, p, s⟩ := ha
  refine ⟨_, pe_notT p, fun ρ σ env H S Q hc he hs h => ?_⟩
  refine s ρ σ env H S _ hc he hs ((OutE.bndE h).imp fun v H1 ⟨x, S1, ρ1, po, h1⟩ => ?_)
  cases q : truR S1 x with
  | none => rw [q] at h1; exact h1.elim
  | some k =>
    rw [q] at h1
    exact ⟨k, tru_snd po.sto po.rel q, OutE.val po.sto h1 (.bl _)⟩
theorem SEc.met {m : Mf} {apos : Pos} (ho : SEc Y T i ad o o') (hr : SAc Y T i ad (e :: es) es') (hb : plainBase o = true) (hline : (apos.endLine == pos.line) = true) (hn : (e :: es).all notStar = true) (hlen : (e :: es).length < 30) : SEc Y T i ad (.Call (.Attribute o (mfName m) apos) (e :: es) [] pos) (.met m o' es') := by
  obtain ⟨t, p, s⟩ := ho
  obtain ⟨t2, p2, s2⟩ := hr
  refine ⟨_, pe_list p p2 hb hline hn hlen, fun ρ σ env H S Q hc he hs h => ?_⟩
  refine s ρ σ env H S _ hc he hs ((OutE.bndE h).imp fun v H1 ⟨x, S1, ρ1, po, h1⟩ => ?_)
  split at h1
  · rename_i l
    split at h1
    · rename_i xs hx
      cases po with
      | mk e1 rel R1 nw =>
        cases rel with
        | ref hl =>
          obtain ⟨vs, h3, h4⟩ := R1.lst hl hx
          refine ⟨.inl ⟨rfl, vs, SqL.of h3⟩, ?_⟩
          refine s2 ρ1 σ env H1 S1 _ hc (he.ext hs e1) R1 (OutG.imp (OutG.toE h1) fun ys ρ2 H2 S2 _ e2 R2 q ws hw => ?_)
          obtain ⟨r, hr, h5⟩ := OutE.ofP q
          exact met_snd R2 (e2.pre hl) hw hr h5
    · exact h1.elim
  · exact h1.elim
/-! ### statements -/
theorem SSc.ret (ha : SEc Y T i ad a a') : SSc Y T i ad (.Return (some a) pos) (.ret (.some a')) := by
  obtain ⟨t, p, s⟩ := ha
  refine ⟨_, ps_ret p, fun ρ σ env H S D hc he hs h => ?_⟩
  refine s ρ σ env H S _ hc he hs ((OutS.ofE he hs h).imp fun v H1 ⟨x, S1, ρ1, po, h1⟩ => ?_)
  exact h1 v ρ1 H1 po
theorem SSc.ex (ha : SEc Y T i ad a a') (hn : notComp a = true) : SSc Y T i ad (.Expr a pos) (.ex a') := by
  obtain ⟨t, p, s⟩ := ha
  refine ⟨_, ps_expr p (swaps_not hn), fun ρ σ env H S D hc he hs h => ?_⟩
  refine s ρ σ env H S _ hc he hs ((OutS.ofE he hs h).imp fun v H1 ⟨x, S1, ρ1, po, h1⟩ => ?_)
  exact h1 σ ρ1 H1 po.ext po.sto (he.ext hs po.ext) hc
theorem SSc.set {j : Nat} {x : Str} {p1 : Pos} (nd : Y.N.Nodup) (hi : Y.N[j]? = some x) (hx : locB Y.env.scope x = true) (ha : SEc Y T i ad a a') (hs : swapsWith a (some (.Name x p1)) pos.line Y.env = pure false) (hf : Y.fn x = true ∨ Y.env.scope.names.lookup x = some .local) (hne : j ≠ i) :
    SSc Y T i ad (.Assign [.Name x p1] a pos) (.set j a') := by
  obtain ⟨t, p, s⟩ := ha
  refine ⟨_, ps_set nd hi (loc_of hx) p hs hf, fun ρ σ env H S D hc he hs h => ?_⟩
  refine s ρ σ env H S _ hc he hs ((OutS.ofE he hs h).imp fun v H1 ⟨x, S1, ρ1, po, h1⟩ => ?_)
  obtain ⟨ρ2, pv⟩ := po.lay
  refine h1 _ ρ2 H1 pv.ext pv.sto ((he.ext hs pv.ext).set pv.rel) ?_
  unfold HoldsE
  rw [List.getElem?_set_ne hne]
  exact hc
theorem SBc.nil : SBc Y T i ad [] .nil := ⟨_, pss_nil, fun ρ σ env H S D hc he hs h => h σ ρ H Ext.refl hs he hc⟩
theorem SBc.cons {st : Stmt} {sts : List Stmt} {c : C} {cs : Cs} (h1 : SSc Y T i ad st c) (h2 : SBc Y T i ad sts cs) : SBc Y T i ad (st :: sts) (.cons c cs) := by
  obtain ⟨t, p, s⟩ := h1
  obtain ⟨t2, p2, s2⟩ := h2
  refine ⟨_, pss_cons p p2, fun ρ σ env H S D hc he hs h => ?_⟩
  refine s ρ σ env H S _ hc he hs ?_
  have h' : OutS Y.K ρ H xF (Ends.c D i ad) ((evS T c env S).bind fun env S => evB T cs env S) := h
  revert h'
  generalize evS T c env S = r
  intro h'
  cases r with
  | ok f env' S' =>
    cases f with
    | nx => exact fun σ' ρ' H' e R r hc' => s2 ρ' σ' env' H' S' D hc' r R (OutS.mono e h')
    | bk => exact h'
    | ct => exact h'
    | rt r => exact h'
  | exc x env' S' => exact h'
  | bad => exact h'
end
/-! ### the tests -/
def namesOf : List Expr → List Str
  | .Name x _ :: r => x :: namesOf r
  | _ => []
structure HTs (Y : Cx) (T : Fns) (i : Nat) (ad : Addr) (n : Str) (ask sups : List Str) : Prop where
  nd : Y.N.Nodup
  fn : Y.fn = fun _ => true
  one : ∀ (x : Str) (p1 p2 p3 p4 : Pos), chkNm Y.env.scope [x] [.Name x p3] = true → x ∈ ask → SEc Y T i ad (.Call (.Name "isinstance" p1) [.Name n p2, .Name x p3] [] p4) (.cst (.bl (sups.contains x)))
  many : ∀ (l : List Str) (cs : List Expr) (k : Nat) (p1 p2 p3 p4 : Pos), chkNm Y.env.scope l cs = true → l.length ≤ 1000 → (∀ x ∈ l, x ∈ ask) → SEc Y T i ad (.Call (.Name "isinstance" p1) [.Name n p2, .Tuple cs k p3] [] p4) (.cst (.bl (l.any fun x => sups.contains x)))
theorem hts_of {T : Fns} {K : PySem.W.Frag} {ask sups : List Str} {mg : Str → Option Value} {c : Str} {C a : Addr} {Y : Cx} (hY : Y.mg = mg) (E : EC K mg ask c sups C) (hK : Y.K = K) {i : Nat} {n : Str} (hN : Y.N[i]? = some n) (hv : visB Y.env.scope n = true) (hd : (n == ("__debug__" : Str)) = false) (hcd : (n == ("__classdict__" : Str)) = false) (hgi : glB Y.env.scope "isinstance" = true) (hmi : mg "isinstance" = none)
    (ci : CallR Y (.builtin "isinstance") (rIsE K C a)) (ct : CallR Y (.builtin "isinstance") (rIsET K C a)) (nd : Y.N.Nodup) (fn : Y.fn = fun _ => true) : HTs Y T i a n ask sups := by
  refine ⟨nd, fn, fun x p1 p2 p3 p4 h1 h2 => ?_, fun l cs k p1 p2 p3 p4 h1 h2 h3 => ?_⟩
  · obtain ⟨t, p, s⟩ := tHan.one (p1 := p1) (p2 := p2) (p3 := p3) (p4 := p4) hY E hK hN hv hd hcd hgi hmi ci h1 h2
    exact ⟨t, p, fun ρ σ env H S Q hc he hs h => s σ H Q hc (OutE.val hs h (RV.bl _))⟩
  · obtain ⟨vs, us, t, b1, b2, b3, b4, b5⟩ := pa_cls E hY l cs h1 h3
    have PC : PE Y (.Call (.Name "isinstance" p1) [.Name n p2, .Tuple cs k p3] [] p4) (tCB (rIsET K C a) _) := pe_callB ct (gl_of hgi) (by rw [hY]; exact hmi) (by decide +kernel) (pa_cons (pe_var hN (vis_of hv) hd hcd) (pa_cons (pe_tup b1) pa_nil)) (by decide) (by decide)
    refine ⟨_, PC, fun ρ σ env H S Q hc he hs h => ⟨.ref a, hc, b2 σ H _ ⟨?_, fun p hp => ?_⟩⟩⟩
    · rw [b5]; exact Nat.le_of_lt (small1000 h2)
    · obtain ⟨e1, R1⟩ := Ext.new_tup (o := .tup vs) hs Ext.refl hp
      exact ⟨p, vs, us, _, rfl, upd_same, b3, b4, OutE.val R1 (OutE.mono e1 h) (RV.bl _)⟩
/-! ### the look at a handler -/
section
variable (N : List Str) (sc : Scope) (n : Str) (i : Nat) (ask sups : List Str)
def chkTest (b : Bool) : Expr → Bool
  | .Call (.Name f _) [.Name m _, .Name x px] [] _ => f == ("isinstance" : Str) && m == n && chkNm sc [x] [.Name x px] && ask.contains x && (sups.contains x == b)
  | .Call (.Name f _) [.Name m _, .Tuple cs _ _] [] _ => f == ("isinstance" : Str) && m == n && chkNm sc (namesOf cs) cs && decide ((namesOf cs).length ≤ 1000) && (namesOf cs).all (fun x => ask.contains x) && (((namesOf cs).any fun x => sups.contains x) == b)
  | _ => false
mutual
def chkHE : E → Expr → Bool
  | .cst v, e => match v with
    | .bl b => chkTest sc n ask sups b e
    | _ => false
  | .var j, e => match e with
    | .Name x _ => slotB N j x && visB sc x && nameOk x
    | _ => false
  | .lst es, e => match e with
    | .List xs _ => chkHA es xs && decide (es.len ≤ 1000)
    | _ => false
  | .and a b, e => match e with
    | .BoolOp .And [x, y] _ => chkHE a x && chkHE b y
    | _ => false
  | .not a, e => match e with
    | .UnaryOp .Not x _ => chkHE a x
    | _ => false
  | .met m o es, e => match e with
    | .Call (.Attribute x f apos) [y] [] pos => f == mfName m && chkHE o x && chkHA es [y] && plainBase x && (apos.endLine == pos.line) && notStar y
    | _ => false
  | _, _ => false
def chkHA : Es → List Expr → Bool
  | .nil, l => l.isEmpty
  | .cons a r, l => match l with
    | x :: xs => chkHE a x && chkHA r xs && notStar x
    | [] => false
end
def chkHS : C → Stmt → Bool
  | .set j e, st => match st with
    | .Assign [.Name x _] v _ => slotB N j x && locB sc x && chkHE N sc n ask sups e v && notComp v && decide (j ≠ i)
    | _ => false
  | .ex e, st => match st with
    | .Expr v _ => chkHE N sc n ask sups e v && notComp v
    | _ => false
  | .ret (.some e), st => match st with
    | .Return (some v) _ => chkHE N sc n ask sups e v
    | _ => false
  | _, _ => false
def chkHB : Cs → List Stmt → Bool
  | .nil, l => l.isEmpty
  | .cons c r, l => match l with
    | st :: sts => chkHS N sc n i ask sups c st && chkHB r sts
    | [] => false
  | _, _ => false
end
section
variable {Y : Cx} {T : Fns} {i : Nat} {ad : Addr} {n : Str} {ask sups : List Str}
theorem test_snd (t : HTs Y T i ad n ask sups) {b : Bool} {e : Expr} (h : chkTest Y.env.scope n ask sups b e = true) : SEc Y T i ad e (.cst (.bl b)) := by
  unfold chkTest at h
  split at h
  · simp only [Bool.and_eq_true] at h
    obtain ⟨⟨⟨⟨h1, h2⟩, h3⟩, h4⟩, h5⟩ := h
    rw [eq_of_beq h1, eq_of_beq h2, ← eq_of_beq h5]
    exact t.one _ _ _ _ _ h3 (by simpa using h4)
  · simp only [Bool.and_eq_true, decide_eq_true_eq] at h
    obtain ⟨⟨⟨⟨⟨h1, h2⟩, h3⟩, h4⟩, h5⟩, h6⟩ := h
    rw [eq_of_beq h1, eq_of_beq h2, ← eq_of_beq h6]
    exact t.many _ _ _ _ _ _ _ h3 h4 fun x hx => by simpa using List.all_eq_true.mp h5 x hx
  · cases h
mutual
theorem sndHE (t : HTs Y T i ad n ask sups) : ∀ (a : E) (e : Expr), chkHE Y.N Y.env.scope n ask sups a e = true → SEc Y T i ad e a
  | .cst v, e, h => by
    simp only [chkHE] at h
    split at h
    · exact test_snd t h
    · cases h
  | .var j, e, h => by
    simp only [chkHE] at h
    split at h
    · simp only [Bool.and_eq_true] at h
      exact (SE.var (slot_of h.1.1) h.1.2 (nameOk_of h.2).1 (nameOk_of h.2).2).toC
    · cases h
  | .lst es, e, h => by
    simp only [chkHE] at h
    split at h
    · simp only [Bool.and_eq_true, decide_eq_true_eq] at h
      exact SEc.lst (sndHA t es _ h.1) h.2
    · cases h
  | .and a b, e, h => by
    simp only [chkHE] at h
    split at h
    · simp only [Bool.and_eq_true] at h
      exact SEc.and (sndHE t a _ h.1) (SEc.one (sndHE t b _ h.2))
    · cases h
  | .not a, e, h => by
    simp only [chkHE] at h
    split at h
    · exact SEc.not (sndHE t a _ h)
    · cases h
  | .met m o es, e, h => by
    simp only [chkHE] at h
    split at h
    · simp only [Bool.and_eq_true] at h
      obtain ⟨⟨⟨⟨⟨h1, h2⟩, h3⟩, h4⟩, h5⟩, h6⟩ := h
      rw [eq_of_beq h1]
      exact SEc.met (sndHE t o _ h2) (sndHA t es _ h3) h4 h5 (by simp [h6]) (by simp)
    · cases h
  | .glb _ _, e, h => by simp [chkHE] at h
  | .tup _, e, h => by simp [chkHE] at h
  | .dic0, e, h => by simp [chkHE] at h
  | .join _ _, e, h => by simp [chkHE] at h
  | .maxd _ _, e, h => by simp [chkHE] at h
  | .bin _ _ _, e, h => by simp [chkHE] at h
  | .neg _, e, h => by simp [chkHE] at h
  | .cmp _ _ _, e, h => by simp [chkHE] at h
  | .or _ _, e, h => by simp [chkHE] at h
  | .ite _ _ _, e, h => by simp [chkHE] at h
  | .call _ _, e, h => by simp [chkHE] at h
  | .blt _ _, e, h => by simp [chkHE] at h
  | .isi _ _, e, h => by simp [chkHE] at h
  | .isiT _ _, e, h => by simp [chkHE] at h
  | .fz _, e, h => by simp [chkHE] at h
  | .call0 _, e, h => by simp [chkHE] at h
  | .ext _ _, e, h => by simp [chkHE] at h
  | .ix _ _, e, h => by simp [chkHE] at h
  | .sl _ _ _, e, h => by simp [chkHE] at h
  | .rev _, e, h => by simp [chkHE] at h
  | .rep _ _, e, h => by simp [chkHE] at h
  | .comp _ _ _ _ _, e, h => by simp [chkHE] at h
theorem sndHA (t : HTs Y T i ad n ask sups) : ∀ (a : Es) (e : List Expr), chkHA Y.N Y.env.scope n ask sups a e = true → SAc Y T i ad e a
  | .nil, e, h => by
    cases e with
    | nil => exact SAc.nil
    | cons _ _ => simp [chkHA] at h
  | .cons a r, e, h => by
    simp only [chkHA] at h
    split at h
    · simp only [Bool.and_eq_true] at h
      exact SAc.cons (sndHE t a _ h.1.1) (sndHA t r _ h.1.2) h.2
    · cases h
end
theorem sndHS (t : HTs Y T i ad n ask sups) (c : C) (st : Stmt) (h : chkHS Y.N Y.env.scope n i ask sups c st = true) : SSc Y T i ad st c := by
  unfold chkHS at h
  split at h
  · split at h
    · simp only [Bool.and_eq_true, decide_eq_true_eq] at h
      obtain ⟨⟨⟨⟨h1, h2⟩, h3⟩, h4⟩, h5⟩ := h
      exact SSc.set t.nd (slot_of h1) h2 (sndHE t _ _ h3) (swaps_not h4) (.inl (by rw [t.fn])) h5
    · cases h
  · split at h
    · simp only [Bool.and_eq_true] at h
      exact SSc.ex (sndHE t _ _ h.1) h.2
    · cases h
  · split at h
    · exact SSc.ret (sndHE t _ _ h)
    · cases h
  · cases h
theorem sndHB (t : HTs Y T i ad n ask sups) : ∀ (c : Cs) (st : List Stmt), chkHB Y.N Y.env.scope n i ask sups c st = true → SBc Y T i ad st c
  | .nil, l, h => by
    cases l with
    | nil => exact SBc.nil
    | cons _ _ => simp [chkHB] at h
  | .cons c r, l, h => by
    simp only [chkHB] at h
    split at h
    · simp only [Bool.and_eq_true] at h
      exact SBc.cons (sndHS t c _ h.1) (sndHB t r _ h.2)
    · cases h
  | .kill _ _, l, h => by simp [chkHB] at h
end
/-! ### try -/
def Hl.find : Hl → Str → Option Cs
  | .nil, _ => none
  | .cons c b r, x => if x = c then some b else r.find x
theorem evH_eq (T : Fns) (ps : List Str) (i : Nat) (x : Exn) (env : Env) (S : Sto) : ∀ hs : Hl, evH T hs ps i x env S = match hs.find x.cls with
    | some b => hEnd i (evB T b (env.set i none) S)
    | none => if ps.contains x.cls = true then .exc x env S else .bad
  | .nil => by simp only [evH, Hl.find]
  | .cons c b r => by
    simp only [evH, Hl.find]
    by_cases h : x.cls = c
    · rw [if_pos h, if_pos h]
    · rw [if_neg h, if_neg h, evH_eq T ps i x env S r]
theorem RE.setN {K : PySem.W.Frag} {ρ : List Addr} {H : Hp} {σ : St} {env : Env} {i : Nat} {v : Option V} (h : RE K ρ H σ env) : RE K ρ H (σ.set i v) (env.set i none) := by
  refine ⟨by rw [List.length_set, List.length_set]; exact h.len, fun j y hy => ?_⟩
  by_cases hj : j = i
  · subst hj
    have hlt : j < env.length := by
      have := (List.getElem?_eq_some_iff.mp hy).1
      rwa [List.length_set] at this
    rw [List.getElem?_set_self hlt] at hy
    cases hy
  · rw [List.getElem?_set_ne (Ne.symm hj)] at hy
    obtain ⟨w, h1, h2⟩ := h.at' j y hy
    exact ⟨w, by rw [List.getElem?_set_ne (Ne.symm hj)]; exact h1, h2⟩
theorem OutS.hEnd {K : PySem.W.Frag} {ρ ρ1 : List Addr} {H H1 : Hp} {W : WX} {D : Ends} {r : SR} {i : Nat} {a : Addr} (e : Ext ρ H ρ1 H1) (h : OutS K ρ H W D (Fe.hEnd i r)) : OutS K ρ1 H1 xF (Ends.c { nx := fun σ' H' => D.nx (σ'.set i none) H', rt := D.rt, bk := fun σ' H' => D.bk (σ'.set i none) H', ct := fun σ' H' => D.ct (σ'.set i none) H' } i a) r := by
  cases r with
  | ok f env' S' =>
    cases f with
    | nx => exact fun σ' ρ' H' e' R r _ => h (σ'.set i none) ρ' H' (e.trans e') R r.setN
    | bk => exact fun σ' ρ' H' e' R r => h (σ'.set i none) ρ' H' (e.trans e') R r.setN
    | ct => exact fun σ' ρ' H' e' R r => h (σ'.set i none) ρ' H' (e.trans e') R r.setN
    | rt r => exact fun v ρ' H' p => h v ρ' H' ⟨e.trans p.ext, p.rel, p.sto, fun o a h1 h2 => e.dom a (p.new o a h1 h2)⟩
  | exc x env' S' => exact False.elim h
  | bad => exact False.elim h
section
variable {X : Cx} {T : Fns} {W : WX} {G : Glb} {pos : Pos}
theorem SS.tryH {body : List Stmt} {body' : Cs} {b0 : Stmt} {sts : List Stmt} {c n : Str} {i : Nat} {ps : List Str} {hl : Hl} {np pos' : Pos} (g : Gd X G T W) (hs : X.stack = X.env :: X.outer) (hf : X.env.frame = some X.env.locals) (hi : X.N[i]? = some n) (hln : X.env.kindOf n = some .local)
    (hgc : glB X.env.scope c = true) (hdc : (c == ("__debug__" : Str)) = false) (hca : c ∈ G.ask) (hne : G.ecl ≠ [])
    (hps : ∀ p ∈ ps, ∃ sups, G.ecl.lookup p = some sups ∧ sups.contains c = false)
    (hh : ∀ cn b, hl.find cn = some b → ∃ sups, G.ecl.lookup cn = some sups ∧ sups.contains c = true ∧ ∀ (a : Addr) (oe : Obj) (pn : List (Addr × Obj)) (C : Addr), EC X.K X.mg G.ask cn sups C → Zc (.ref C) none oe → (∃ vs, oe.data = .fields vs) → SBc (X.suite a ((a, oe) :: pn)) T i a (b0 :: sts) b)
    (hb : ∀ (W' : WX) (pn : List (Addr × Obj)) (xe : Value → Shared → Prop), Takes (X.tr pn xe) W' → PassesOwn (model X.prog X.w) X.A X.env xe → SB (X.tr pn xe) T W' body body') :
    SS X T W (.Try body [.ExceptHandler (some (.Name c np)) (some n) (b0 :: sts) pos'] [] [] pos) (.tryH ps body' c i hl) := by
  obtain ⟨⟨c0, s0⟩, hc0⟩ : ∃ e, e ∈ G.ecl := by
    cases h : G.ecl with
    | nil => exact absurd h hne
    | cons e r => exact ⟨e, by simp⟩
  obtain ⟨C0, E0⟩ := g.exc c0 s0 hc0
  obtain ⟨cv, v, m, _, _, _, _⟩ := E0.as c hca
  refine ⟨_, ps_try_as (tb := semB X.K T body') (ts := fun a cls d => fun D σ H => ∃ C cn sups b σ0, cls = .ref C ∧ d = none ∧ EC X.K X.mg G.ask cn sups C ∧ G.ecl.lookup cn = some sups ∧ hl.find cn = some b ∧ σ = List.set σ0 i (some (.ref a)) ∧ ∃ ρ env S, RE X.K ρ H σ env ∧ RS X.K ρ H S ∧ OutS X.K ρ H xF (Ends.c D i a) (evB T b env S)) hs hf g.nd hi hln ⟨gl_of hgc, hdc, m⟩ g.tk (fun W' pn xe tk po => (hb W' pn xe tk po).ps) (fun a oe cls d pn hz hfl => ?_), fun ρ σ env H S D he hs h => ?_⟩
  · refine ⟨fun pins st σ H D I hh2 => ?_⟩
    obtain ⟨C, cn, sups, b, σ0, rfl, rfl, E, hlk, hfd, hset, ρ, env, S, he, hr, ho⟩ := hh2
    have hlen : (List.set σ0 i (some (V.ref a))).length = X.N.length := by rw [← hset]; exact I.len
    have hil : i < X.N.length := (List.getElem?_eq_some_iff.mp hi).1
    have hget : HoldsE i a σ := by
      unfold HoldsE
      rw [hset]
      exact List.getElem?_set_self (by rw [List.length_set] at hlen; omega)
    obtain ⟨sups', l', _, k⟩ := hh cn b hfd
    have hse : sups' = sups := by
      rw [l'] at hlk
      cases hlk
      rfl
    subst hse
    obtain ⟨t, p, s⟩ := k a oe pn C E hz hfl
    exact p.run pins st σ H D I (s ρ σ env H S D hget he hr ho)
  · refine ⟨ρ, env, S, he, hs, ?_⟩
    have h' : OutS X.K ρ H W D (meetH (evH T hl ps i) (evB T body' env S)) := h
    revert h'
    generalize evB T body' env S = r
    intro h'
    cases r with
    | ok f env' S' => cases f <;> exact h'
    | bad => exact h'
    | exc x env' S' =>
      intro cl d σ' ρ' H' po re
      simp only [meetH, evH_eq] at h'
      obtain ⟨e1, R1, hd0, hns⟩ := po
      have cls : ∀ sups, G.ecl.lookup x.cls = some sups → ∃ C, cl = .ref C ∧ EC X.K X.mg G.ask x.cls sups C ∧ PySem.W.exmOne X.K cl cv = some (sups.contains c) := by
        intro sups hlk
        obtain ⟨C, E⟩ := g.exc x.cls sups (lookup_mem hlk)
        have hcl : cl = .ref C := by
          have := hns
          rw [E.ns] at this
          cases this
          rfl
        obtain ⟨cv2, v2, m2, _, _, _, ex2⟩ := E.as c hca
        have hcv : cv2 = cv := by
          rcases m with m | m <;> rcases m2 with m2 | m2
          · rw [m] at m2; cases m2; rfl
          · rw [m] at m2; cases m2.1
          · rw [m.1] at m2; cases m2
          · rw [m.2.1] at m2; cases m2.2.1; rfl
        subst hcv
        exact ⟨C, hcl, E, by rw [hcl]; exact ex2⟩
      cases hfd : hl.find x.cls with
      | some b =>
        rw [hfd] at h'
        obtain ⟨sups, hlk, hcc, _⟩ := hh x.cls b hfd
        obtain ⟨C, hcl, E, ex⟩ := cls sups hlk
        refine ⟨_, ex, fun hb2 a ha => ?_, fun hb2 => by rw [hcc] at hb2; cases hb2⟩
        exact ⟨C, x.cls, sups, b, σ', hcl, hd0, E, hlk, hfd, rfl, ρ', env'.set i none, S', re.setN, R1, OutS.hEnd e1 h'⟩
      | none =>
        rw [hfd] at h'
        simp only at h'
        split at h'
        · rename_i hp
          obtain ⟨sups, hlk, hcc⟩ := hps x.cls (by simpa using hp)
          obtain ⟨C, hcl, E, ex⟩ := cls sups hlk
          exact ⟨_, ex, fun hb2 => by rw [hcc] at hb2; (cases hb2), fun _ => h' cl d σ' ρ' H' ⟨e1, R1, hd0, hns⟩ re⟩
        · exact h'.elim
end
section
variable (G : Glb) (N : List Str) (sc : Scope) (n : Str) (i : Nat) (c : Str) (sts : List Stmt)
def chkHl : Hl → Bool
  | .nil => true
  | .cons cn b r => (match G.ecl.lookup cn with
    | some sups => sups.contains c && chkHB N sc n i G.ask sups b sts
    | none => false) && chkHl r
def chkPs (ps : List Str) : Bool := ps.all fun p => match G.ecl.lookup p with
  | some sups => !sups.contains c
  | none => false
end
theorem chkHl_find {G : Glb} {N : List Str} {sc : Scope} {n : Str} {i : Nat} {c : Str} {sts : List Stmt} : ∀ {hl : Hl}, chkHl G N sc n i c sts hl = true → ∀ cn b, hl.find cn = some b → ∃ sups, G.ecl.lookup cn = some sups ∧ sups.contains c = true ∧ chkHB N sc n i G.ask sups b sts = true
  | .nil, _, cn, b, h => by cases h
  | .cons c1 b1 r, h, cn, b, hf => by
    simp only [chkHl, Bool.and_eq_true] at h
    simp only [Hl.find] at hf
    split at hf
    · rename_i e
      cases hf
      have h1 := h.1
      split at h1
      · rename_i sups hs
        simp only [Bool.and_eq_true] at h1
        exact ⟨sups, by rw [e]; exact hs, h1.1, h1.2⟩
      · cases h1
    · exact chkHl_find h.2 cn b hf
theorem chkPs_mem {G : Glb} {c : Str} {ps : List Str} (h : chkPs G c ps = true) : ∀ p ∈ ps, ∃ sups, G.ecl.lookup p = some sups ∧ sups.contains c = false := by
  intro p hp
  have h1 := List.all_eq_true.mp h p hp
  split at h1
  · rename_i sups hs
    exact ⟨sups, hs, by simpa using h1⟩
  · cases h1
end Fe

/-! Feb: statements, defs, the law -/
namespace Fe
open PySem L2

/-! ### statements -/
def notTupD : Expr → Bool
  | .Tuple _ _ _ => false
  | _ => true
theorem swap_tup {ts : List Expr} {k : Nat} {p : Pos} {v : Expr} {env : PySem.Env} (h : notTupD v = true) : swappedStores [.Tuple ts k p] v env = pure none := by
  cases v <;> first | rfl | exact Bool.noConfusion h
def localB (sc : Scope) (x : Str) : Bool := match sc.names.lookup x with
  | some .local => true
  | _ => false
theorem local_of {sc : Scope} {x : Str} (h : localB sc x = true) : sc.names.lookup x = some .local := by
  unfold localB at h
  split at h
  · assumption
  · cases h
def parB (sc : Scope) (x y : Str) (px py : Pos) (a b : Expr) : Bool :=
  localB sc x && localB sc y && (py.line == px.line) && !(x == y) && notStar a && notStar b && !(foldedForSure 8 a && foldedForSure 8 b) && !(constantsAlone 8 a && constantsAlone 8 b) && (match sc.kind with | .function => true | _ => false)
theorem swap_par {x y : Str} {px py pt pt2 : Pos} {kt k2 : Nat} {a b : Expr} {env : PySem.Env} (h : parB env.scope x y px py a b = true) :
    swappedStores [.Tuple [.Name x px, .Name y py] kt pt] (.Tuple [a, b] k2 pt2) env = pure (some [x, y]) := by
  unfold parB at h
  simp only [Bool.and_eq_true, Bool.not_eq_true'] at h
  obtain ⟨⟨⟨⟨⟨⟨⟨⟨h1, h2⟩, h3⟩, h4⟩, h5⟩, h6⟩, h7⟩, h8⟩, h9⟩ := h
  have hk : env.scope.kind = .function := by
    split at h9
    · assumption
    · cases h9
  have hb : env.blockKind = .function := by unfold Env.blockKind; rw [hk]; rfl
  have kx : env.kindOf x = some .local := local_of h1
  have ky : env.kindOf y = some .local := local_of h2
  have any2 : ∀ p : Expr → Bool, p a = false → p b = false → ([a, b] : List Expr).any p = false := fun p e1 e2 => by
    simp only [List.any_cons, List.any_nil, e1, e2, Bool.or_false]
  have hd : ([x, y] : List Str).eraseDups.length = 2 := by
    have h : (y == x) = false := by
      rw [beq_eq_false_iff_ne] at h4 ⊢
      exact fun e => h4 e.symm
    rw [List.eraseDups_cons]
    have e : List.filter (fun b => !b == x) [y] = [y] := by simp [h]
    rw [e, List.eraseDups_cons]
    rfl
  have hf : ([a, b] : List Expr).all (foldedForSure 8) = false := by simpa using h7
  have hc : ([a, b] : List Expr).all (constantsAlone 8) = false := by simpa using h8
  unfold swappedStores
  simp only [hb, hf, hc, kx, ky, List.length_cons, List.length_nil, List.head?_cons, Option.map_some, Option.getD_some, Expr.pos, List.filterMap_cons, List.filterMap_nil, h3, beq_self_eq_true, Bool.and_true, if_true, hd]
  rw [if_neg (by decide)]
  rw [if_neg (by
    rw [any2 _ (by cases a <;> first | rfl | exact Bool.noConfusion h5) (by cases b <;> first | rfl | exact Bool.noConfusion h6)]
    exact Bool.false_ne_true)]
  rfl
def lcB (sc : Scope) (x : Str) (p1 pos : Pos) (scope : Scope) : Bool := (match sc.kind with | .function => true | _ => false) && localB sc x && (p1.line == pos.line) && !(scope.names.any fun (n, k) => n == x && (k == .local || k == .cell))
/-- a local that is caught by a comprehension: no exchange of stores -/
def cellB (sc : Scope) (x : Str) : Bool := match sc.names.lookup x with
  | some .cell => true
  | _ => false
def isCompB : E → Bool
  | .comp _ _ _ _ _ => true
  | _ => false
section
variable (G : Glb) (N : List Str)
mutual
def chkS : C → Scope → Stmt → Bool
  | .set i e, sc, st => match st with
    | .Assign [.Name x p1] v _ => slotB N i x && locB sc x && chkE G N e sc v && (match v with
      | .ListComp _ _ scope pos => lcB sc x p1 pos scope && isCompB e || cellB sc x
      | v => notComp v)
    | _ => false
  | .asg t e, sc, st => match st with
    | .Assign [.Tuple ts k p] v _ => chkT N sc (fun _ => true) t (.Tuple ts k p) && chkE G N e sc v && notComp v && notTupD v
    | _ => false
  | .par i j a b, sc, st => match st with
    | .Assign [.Tuple [.Name x px, .Name y py] _ _] (.Tuple [u, v] _ _) _ => slotB N i x && slotB N j y && decide (i ≠ j) && chkE G N a sc u && chkE G N b sc v && parB sc x y px py u v
    | _ => false
  | .setIx o i e, sc, st => match st with
    | .Assign [.Subscript x y _] v _ => chkE G N o sc x && chkE G N i sc y && chkE G N e sc v && notComp v && notSlice y
    | _ => false
  | .aug i o e, sc, st => match st with
    | .AugAssign (.Name x _) op v _ => slotB N i x && locB sc x && decide (op = opPy o) && chkE G N e sc v
    | _ => false
  | .ex e, sc, st => match st with
    | .Expr v _ => chkE G N e sc v && notComp v
    | _ => false
  | .ret .none, _, st => match st with
    | .Return none _ => true
    | _ => false
  | .ret (.some e), sc, st => match st with
    | .Return (some v) _ => chkE G N e sc v
    | _ => false
  | .ite c a b, sc, st => match st with
    | .If t x y _ => tsB c && chkE G N c sc t && chkB a sc x && chkB b sc y
    | _ => false
  | .wh c b, sc, st => match st with
    | .While t x [] _ => tsB c && chkE G N c sc t && chkB b sc x
    | _ => false
  | .for t it b, sc, st => match st with
    | .For tg iter x [] _ => chkI G N it sc tg iter && chkT N sc (fun _ => true) t tg && chkB b sc x && notSet iter
    | _ => false
  | .pass, _, st => match st with
    | .Pass _ => true
    | _ => false
  | .cont, _, st => match st with
    | .Continue _ => true
    | _ => false
  | .brk, _, st => match st with
    | .Break _ => true
    | _ => false
  | .rse c m, sc, st => match st with
    | .Raise (some (.Call (.Name x _) [.Constant (.str y) _ _] [] _)) none _ => x == c && y == m && glB sc c && nameOk c && G.ecl.any (fun e => e.1 == c)
    | _ => false
  | .tryE tb b c i ifs p q, sc, st => match st with
    | .Try body [.ExceptHandler (some (.Name x _)) (some n) (b0 :: sts) _] [] [] _ => x == c && decide (tb = G.ecl) && chkB b sc body && slotB N i n && localB sc n && glB sc c && nameOk c && nameOk n && glB sc "isinstance" && G.ask.contains c && G.ask.contains p && G.ask.contains q && !G.ecl.isEmpty && chkH sc n ifs p q (b0 :: sts) && ifs.all (fun l => l.all fun x => G.ask.contains x)
    | _ => false
  | .tryH ps b c i hs, sc, st => match st with
    | .Try body [.ExceptHandler (some (.Name x _)) (some n) (b0 :: sts) _] [] [] _ => x == c && chkB b sc body && slotB N i n && localB sc n && glB sc c && nameOk c && nameOk n && glB sc "isinstance" && G.ask.contains c && !G.ecl.isEmpty && chkPs G c ps && chkHl G N sc n i c (b0 :: sts) hs
    | _ => false
  | .never, _, _ => true
def chkB : Cs → Scope → List Stmt → Bool
  | .nil, _, l => l.isEmpty
  | .cons c r, sc, l => match l with
    | st :: sts => chkS c sc st && chkB r sc sts
    | [] => false
  | .kill _ r, sc, l => chkB r sc l
end
end
section
variable {G : Glb} {T : Fns} {X : Cx} {W : WX}
theorem lc_swaps {elt : Expr} {gs : List Comprehension} {scope : Scope} {pos p1 : Pos} {x : Str} {l : Nat} (h : lcB X.env.scope x p1 pos scope = true) : swapsWith (.ListComp elt gs scope pos) (some (.Name x p1)) l X.env = pure true ∧ X.env.scope.names.lookup x = some .local := by
  unfold lcB at h
  simp only [Bool.and_eq_true, Bool.not_eq_true'] at h
  obtain ⟨⟨⟨h1, h2⟩, h3⟩, h4⟩ := h
  have hk : X.env.scope.kind = .function := by
    split at h1
    · assumption
    · cases h1
  exact ⟨sw_true hk (local_of h2) h3 h4, local_of h2⟩
theorem cell_swaps {elt : Expr} {gs : List Comprehension} {scope : Scope} {pos p1 : Pos} {x : Str} {l : Nat} (h : cellB X.env.scope x = true) : swapsWith (.ListComp elt gs scope pos) (some (.Name x p1)) l X.env = pure false := by
  unfold cellB at h
  split at h
  · rename_i hc
    have kx : X.env.kindOf x = some .cell := hc
    unfold swapsWith
    simp only [kx]
    have : (some NameKind.cell == some NameKind.local) = false := rfl
    simp only [this, Bool.and_false, Bool.false_and]
  · cases h
/-- what a def's body stands in -/
structure Hy (X : Cx) (G : Glb) (T : Fns) (W : WX) : Prop where
  hp : PassesOwn (model X.prog X.w) X.A X.env X.xe
  g : Gd X G T W
  hfn : X.fn = fun _ => true
  hs : X.stack = X.env :: X.outer
  hf : X.env.frame = some X.env.locals
theorem Hy.tr {W' : WX} (y : Hy X G T W) (pn : List (Addr × Obj)) (xe : Value → Shared → Prop) (tk : Takes (X.tr pn xe) W') (po : PassesOwn (model X.prog X.w) X.A X.env xe) : Hy (X.tr pn xe) G T W' := ⟨po, ⟨y.g.calm, y.g.nd, y.g.un, tk, y.g.blt, y.g.fns, y.g.cons, y.g.exc⟩, y.hfn, y.hs, y.hf⟩
mutual
theorem sndS : ∀ (c : C) (X : Cx) (W : WX) (st : Stmt), Hy X G T W → chkS G X.N c X.env.scope st = true → SS X T W st c
  | .set i e, X, W, st, y, h => by
    have hp := y.hp
    have g := y.g
    have hfn := y.hfn
    simp only [chkS] at h
    split at h
    · rename_i x p1 v pos
      simp only [Bool.and_eq_true] at h
      obtain ⟨⟨⟨h1, h2⟩, h3⟩, h4⟩ := h
      have hf : X.fn x = true ∨ X.env.scope.names.lookup x = some .local := .inl (by rw [hfn])
      split at h4
      · rename_i elt gs scope p2
        simp only [Bool.or_eq_true, Bool.and_eq_true] at h4
        rcases h4 with ⟨h4, h5⟩ | h4
        · obtain ⟨k1, k2⟩ := lc_swaps (l := pos.line) (elt := elt) (gs := gs) h4
          cases e with
          | comp own tg it c el =>
            simp only [chkE] at h3
            split at h3
            · rename_i heq
              cases heq
              simp only [Bool.and_eq_true, decide_eq_true_eq] at h3
              obtain ⟨⟨⟨⟨⟨⟨⟨g0, g1⟩, g2⟩, g3⟩, g4⟩, g5⟩, g6⟩, g7⟩ := h3
              subst g0
              exact SS.setLc g (sndI it X W _ _ g g1) g2 (ownN_snd _ _) (sub_of g3) (fun s H C cl fp => sndT (X := Blk X _ s H C cl fp) g.calm g.nd tg _ g4) (fun s H C cl fp => sndC c (Blk X _ s H C cl fp) W0 _ (g.blk _ s H C cl fp) g5) (fun s H C cl fp => (sndE el (Blk X _ s H C cl fp) W0 _ (g.blk _ s H C cl fp) g6).se) g7 (slot_of h1) k2 k1
            · cases h3
          | _ => cases h5
        · exact SS.set g (slot_of h1) h2 (sndE e X W _ g h3).se (cell_swaps h4) hf
      · exact SS.set g (slot_of h1) h2 (sndE e X W _ g h3).se (swaps_not h4) hf
    · cases h
  | .asg t e, X, W, st, y, h => by
    have hp := y.hp
    have g := y.g
    have hfn := y.hfn
    simp only [chkS] at h
    split at h
    · simp only [Bool.and_eq_true] at h
      obtain ⟨⟨⟨h1, h2⟩, h3⟩, h4⟩ := h
      exact SS.asg (sndE e X W _ g h2).se (sndL g.calm g.nd t (by rw [hfn]; exact h1)) h3 (swap_tup h4) rfl
    · cases h
  | .par i j a b, X, W, st, y, h => by
    have hp := y.hp
    have g := y.g
    have hfn := y.hfn
    simp only [chkS] at h
    split at h
    · simp only [Bool.and_eq_true, decide_eq_true_eq] at h
      obtain ⟨⟨⟨⟨⟨h1, h2⟩, h3⟩, h4⟩, h5⟩, h6⟩ := h
      have h6' := h6
      unfold parB at h6'
      simp only [Bool.and_eq_true, Bool.not_eq_true'] at h6'
      obtain ⟨⟨⟨⟨⟨⟨⟨⟨p1, p2⟩, p3⟩, p4⟩, p5⟩, p6⟩, p7⟩, p8⟩, p9⟩ := h6'
      exact SS.par g (slot_of h1) (slot_of h2) h3 (local_of p1) (local_of p2) (SA.cons (sndE a X W _ g h4).se (SA.cons (sndE b X W _ g h5).se SA.nil p6) p5) (swap_par h6)
    · cases h
  | .setIx o i e, X, W, st, y, h => by
    have hp := y.hp
    have g := y.g
    have hfn := y.hfn
    simp only [chkS] at h
    split at h
    · simp only [Bool.and_eq_true] at h
      obtain ⟨⟨⟨⟨h1, h2⟩, h3⟩, h4⟩, h5⟩ := h
      exact SS.setIx (sndE o X W _ g h1).se (sndE i X W _ g h2).se (sndE e X W _ g h3).se h4 rfl h5
    · cases h
  | .aug i o e, X, W, st, y, h => by
    have hp := y.hp
    have g := y.g
    have hfn := y.hfn
    simp only [chkS] at h
    split at h
    · simp only [Bool.and_eq_true, decide_eq_true_eq] at h
      obtain ⟨⟨⟨h1, h2⟩, h3⟩, h4⟩ := h
      subst h3
      exact SS.aug g (slot_of h1) h2 (sndE e X W _ g h4).se (.inl (by rw [hfn]))
    · cases h
  | .ex e, X, W, st, y, h => by
    have hp := y.hp
    have g := y.g
    have hfn := y.hfn
    simp only [chkS] at h
    split at h
    · simp only [Bool.and_eq_true] at h
      exact SS.ex (sndE e X W _ g h.1).se h.2
    · cases h
  | .ret .none, X, W, st, y, h => by
    have hp := y.hp
    have g := y.g
    have hfn := y.hfn
    simp only [chkS] at h
    split at h
    · exact SS.retN
    · cases h
  | .ret (.some e), X, W, st, y, h => by
    have hp := y.hp
    have g := y.g
    have hfn := y.hfn
    simp only [chkS] at h
    split at h
    · exact SS.ret (sndE e X W _ g h).se
    · cases h
  | .ite c a b, X, W, st, y, h => by
    have hp := y.hp
    have g := y.g
    have hfn := y.hfn
    simp only [chkS] at h
    split at h
    · simp only [Bool.and_eq_true] at h
      obtain ⟨⟨⟨h1, h2⟩, h3⟩, h4⟩ := h
      exact SS.ite ((sndE c X W _ g h2).st h1) (sndB a X W _ y h3) (sndB b X W _ y h4)
    · cases h
  | .wh c b, X, W, st, y, h => by
    have hp := y.hp
    have g := y.g
    have hfn := y.hfn
    simp only [chkS] at h
    split at h
    · simp only [Bool.and_eq_true] at h
      exact SS.wh hp ((sndE c X W _ g h.1.2).st h.1.1) (sndB b X W _ y h.2)
    · cases h
  | .for t it b, X, W, st, y, h => by
    have hp := y.hp
    have g := y.g
    have hfn := y.hfn
    simp only [chkS] at h
    split at h
    · simp only [Bool.and_eq_true] at h
      obtain ⟨⟨⟨h1, h2⟩, h3⟩, h4⟩ := h
      exact SS.for hp g (sndI it X W _ _ g h1) (sndT g.calm g.nd t _ (by rw [hfn]; exact h2)) (sndB b X W _ y h3) h4
    · cases h
  | .pass, X, W, st, y, h => by
    have hp := y.hp
    have g := y.g
    have hfn := y.hfn
    simp only [chkS] at h
    split at h
    · exact SS.pass
    · cases h
  | .cont, X, W, st, y, h => by
    have hp := y.hp
    have g := y.g
    have hfn := y.hfn
    simp only [chkS] at h
    split at h
    · exact SS.cont
    · cases h
  | .brk, X, W, st, y, h => by
    have hp := y.hp
    have g := y.g
    have hfn := y.hfn
    simp only [chkS] at h
    split at h
    · exact SS.brk
    · cases h
  | .rse c m, X, W, st, y, h => by
    simp only [chkS] at h
    split at h
    · simp only [Bool.and_eq_true] at h
      obtain ⟨⟨⟨⟨h1, h2⟩, h3⟩, h4⟩, h5⟩ := h
      rw [eq_of_beq h1, eq_of_beq h2]
      obtain ⟨e, he, hc⟩ := List.any_eq_true.mp h5
      have hmem : (c, e.2) ∈ G.ecl := by rw [← eq_of_beq hc]; exact he
      exact SS.rse y.g hmem h3 (nameOk_of h4).1
    · cases h
  | .tryE tb b c i ifs p q, X, W, st, y, h => by
    simp only [chkS] at h
    split at h
    · rename_i body x px n b0 sts ph pt
      simp only [Bool.and_eq_true, decide_eq_true_eq, Bool.not_eq_true'] at h
      obtain ⟨⟨⟨⟨⟨⟨⟨⟨⟨⟨⟨⟨⟨⟨h1, h2⟩, h3⟩, h4⟩, h5⟩, h6⟩, h7⟩, h8⟩, h9⟩, ha⟩, hb⟩, hc⟩, hd⟩, he⟩, hf⟩ := h
      rw [eq_of_beq h1]
      subst h2
      have hv : visB X.env.scope n = true := by
        unfold visB
        rw [local_of h5]
      exact SS.tryE y.g y.hs y.hf (slot_of h4) (local_of h5) h6 (nameOk_of h7).1 (by simpa using ha) hv (nameOk_of h8).1 (nameOk_of h8).2 h9 (by simpa using hb) (by simpa using hc) (by intro z; rw [z] at hd; cases hd) he (fun l hl x hx => by
        have := List.all_eq_true.mp (List.all_eq_true.mp hf l hl) x hx
        simpa using this) (fun W' pn xe tk po => sndB b (X.tr pn xe) W' _ (y.tr pn xe tk po) h3)
    · cases h
  | .tryH ps b c i hs, X, W, st, y, h => by
    simp only [chkS] at h
    split at h
    · rename_i body x px n b0 sts ph pt
      simp only [Bool.and_eq_true, Bool.not_eq_true'] at h
      obtain ⟨⟨⟨⟨⟨⟨⟨⟨⟨⟨⟨h1, h2⟩, h3⟩, h4⟩, h5⟩, h6⟩, h7⟩, h8⟩, h9⟩, ha⟩, hb⟩, hc⟩ := h
      rw [eq_of_beq h1]
      have hv : visB X.env.scope n = true := by
        unfold visB
        rw [local_of h4]
      refine SS.tryH y.g y.hs y.hf (slot_of h3) (local_of h4) h5 (nameOk_of h6).1 (by simpa using h9) (by intro z; rw [z] at ha; cases ha) (chkPs_mem hb) (fun cn b' hfd => ?_) (fun W' pn xe tk po => sndB b (X.tr pn xe) W' _ (y.tr pn xe tk po) h2)
      obtain ⟨sups, q1, q2, q3⟩ := chkHl_find hc cn b' hfd
      exact ⟨sups, q1, q2, fun a oe pn C E hz hfl => sndHB (Y := X.suite a ((a, oe) :: pn)) (hts_of (Y := X.suite a ((a, oe) :: pn)) rfl E rfl (slot_of h3) hv (nameOk_of h7).1 (nameOk_of h7).2 h8 (y.g.blt "isinstance" (by decide +kernel)) (call_isE E.ec hz hfl) (call_isET E.ec hz hfl) y.g.nd y.hfn) b' _ q3⟩
    · cases h
  | .never, X, W, st, y, h => SS.never
theorem sndB : ∀ (c : Cs) (X : Cx) (W : WX) (st : List Stmt), Hy X G T W → chkB G X.N c X.env.scope st = true → SB X T W st c
  | .nil, X, W, st, y, h => by
    have hp := y.hp
    have g := y.g
    have hfn := y.hfn
    cases st with
    | nil => exact SB.nil
    | cons _ _ => cases h
  | .cons c r, X, W, st, y, h => by
    have hp := y.hp
    have g := y.g
    have hfn := y.hfn
    cases st with
    | nil => cases h
    | cons s sts =>
      simp only [chkB, Bool.and_eq_true] at h
      exact SB.cons (sndS c X W s y h.1) (sndB r X W sts y h.2)
  | .kill is r, X, W, st, y, h => sndB r X W st y h
end
end

/-! ### defs -/
section
variable {P : Program} {w : World} {K : PySem.W.Frag} {mg : Str → Option Value} {base : Heap}
theorem start_rel {ρ : List Addr} {H : Hp} {N : List Str} {n : Nat} {vs : List V} {xs : List Val} (hn : n = N.length) (h : RVs K ρ H vs xs) : RE K ρ H (L2.start N vs) (startE n xs) := by
  unfold L2.start startE
  refine ⟨by simp [h.length, hn], fun i x hx => ?_⟩
  by_cases hi : i < xs.length
  · rw [List.getElem?_append_left (by simpa using hi), List.getElem?_map] at hx
    cases q : xs[i]? with
    | none => rw [q] at hx; cases hx
    | some y =>
      rw [q] at hx
      cases hx
      obtain ⟨v, h1, h2⟩ := h.get q
      refine ⟨v, ?_, h2⟩
      rw [List.getElem?_append_left (by rw [List.length_map, h.length]; exact hi), List.getElem?_map, h1]
      rfl
  · rw [List.getElem?_append_right (by simpa using hi), List.getElem?_replicate] at hx
    split at hx <;> cases hx
/-- what a def wants of those that it calls -/
def Callees (P : Program) (w : World) (K : PySem.W.Frag) (mg : Str → Option Value) (base : Heap) (G : Glb) (T : Fns) (k : Nat) : Prop :=
  ∀ f n, (f, n) ∈ G.fns → ∃ (a : Addr) (fd : FuncData) (ps : List Str), FnOk P w K mg base (L2.CX P w) k a fd ps (spF K T f n) ∧ mg f = some (.ref a) ∧ PySem.W.keepIn K (.ref a) = true ∧ Binds K fd ps []
structure Outer (K : PySem.W.Frag) (mg : Str → Option Value) (G : Glb) : Prop where
  blt : ∀ x ∈ bltNames, mg x = none
  cons : ∀ x v, (x, v) ∈ G.cons → ∃ u w, mg x = some u ∧ RelV w u ∧ ∀ ρ H, RV K ρ H w v
  exc : ∀ c sups, (c, sups) ∈ G.ecl → ∃ C, EC K mg G.ask c sups C
theorem fn_snd {G : Glb} {T T' : Fns} {f qual : Str} {st : Stmt} {a : Addr} {fd : FuncData} {N ps : List Str} {d : Fd} {k : Nat} (F : Fun K f qual st a fd) (S : FnScope N ps (defScope st)) (hnp : d.np = ps.length) (hn : d.n = N.length)
    (hc : chkB G N d.body (defScope st) (defBody st) = true) (O : Outer K mg G) (C : Callees P w K mg base G T k) (hT : ∀ xs S, T' f xs S = runD T d xs S) : FnOk P w K mg base (L2.CX P w) (k + 1) a fd ps (spF K T' f d.np) := by
  refine F.okX S (fun vs H Q E h => ?_) (fun cdv A outer s H vs Q E hr h => ?_)
  · obtain ⟨_, _, _, hl, _⟩ := h
    rw [hl, hnp]
  obtain ⟨ρ, S0, xs, hl, rv, R, h⟩ := h
  rw [hT] at h
  have g : Gd (cxOf (L2.CX P w) P w K mg base N qual (defScope st) a cdv A outer s H E) G T (fun cls d _ H => E cls d H) := by
    refine ⟨rfl, S.nd, ?_, takes_of rfl rfl rfl rfl, O.blt, fun f n hf => ?_, O.cons, O.exc⟩
    · have := hr.un
      show (A.deeper _).units + 100 < cLine
      omega
    · obtain ⟨a', fd', ps', F', h1, h2, h3⟩ := C f n hf
      exact ⟨a', fd', ps', k, F', hr, h1, h2, h3⟩
  have hp := passes_of (X := cxOf (L2.CX P w) P w K mg base N qual (defScope st) a cdv A outer s H E) rfl
  obtain ⟨t, pt, sb⟩ := sndB d.body (cxOf (L2.CX P w) P w K mg base N qual (defScope st) a cdv A outer s H E) _ (defBody st) ⟨hp, g, rfl, rfl, rfl⟩ hc
  refine ⟨t, pt, sb ρ _ (startE d.n xs) H S0 _ (start_rel hn rv) R ?_⟩
  unfold runD at h
  rw [if_pos (by rw [← rv.length]; exact hl)] at h
  revert h
  generalize evB T d.body (startE d.n xs) S0 = r
  intro h
  cases r with
  | ok fl env' S' =>
    cases fl with
    | nx => exact fun σ' ρ' H' e R' _ => h ρ' H' e R' .non RV.non fun _ _ z _ => nomatch z
    | rt r => exact fun v ρ' H' p => h ρ' H' p.ext p.sto v p.rel p.new
    | bk => exact h.elim
    | ct => exact h.elim
  | exc x env' S' => exact fun c d σ' ρ' H' p _ => h c d ρ' H' p
  | bad => exact h

/-! ### a whole program -/
structure Ent where
  f : Str
  st : Stmt
  N : List Str
  ps : List Str
  d : Fd
def scopeB (N ps : List Str) (sc : Scope) : Bool :=
  (match sc.kind with | .function => true | _ => false) && !sc.isCoroutine && !sc.isGenerator && decide N.Nodup && decide (N.take ps.length = ps) && (ps.all fun x => locB sc x) && (sc.names.all fun y => match y.2 with | .free => false | _ => true)
theorem scope_of {N ps : List Str} {sc : Scope} (h : scopeB N ps sc = true) : FnScope N ps sc := by
  unfold scopeB at h
  simp only [Bool.and_eq_true, Bool.not_eq_true', decide_eq_true_eq, List.all_eq_true] at h
  obtain ⟨⟨⟨⟨⟨⟨h1, h2⟩, h3⟩, h4⟩, h5⟩, h6⟩, h7⟩ := h
  refine ⟨?_, h2, h3, h4, h5, fun x hx => loc_of (h6 x hx), fun y hy e => ?_⟩
  · split at h1
    · assumption
    · cases h1
  · have := h7 y hy
    rw [e] at this
    cases this
def Ent.ok (G : Glb) (e : Ent) : Bool := scopeB e.N e.ps (defScope e.st) && decide (e.d.np = e.ps.length) && decide (e.d.n = e.N.length) && chkB G e.N e.d.body (defScope e.st) (defBody e.st)
/-- the table of a program -/
def tab : List Ent → Str → Option Fd
  | [], _ => none
  | e :: r, f => if e.f == f then some e.d else tab r f
theorem tab_mem : ∀ {es : List Ent} {e : Ent}, (es.map (·.f)).Nodup → e ∈ es → tab es e.f = some e.d
  | x :: r, e, hn, h => by
    rw [List.map_cons, List.nodup_cons] at hn
    unfold tab
    rcases List.mem_cons.mp h with rfl | h
    · rw [if_pos (beq_self_eq_true _)]
    · rw [if_neg, tab_mem hn.2 h]
      intro z
      exact hn.1 (by rw [eq_of_beq z]; exact List.mem_map_of_mem h)
def Held (K : PySem.W.Frag) (mg : Str → Option Value) (e : Ent) : Prop := ∃ a fd, Fun K e.f e.f e.st a fd ∧ Binds K fd e.ps [] ∧ mg e.f = some (.ref a)
theorem all_snd {G : Glb} {es : List Ent} (hn : (es.map (·.f)).Nodup) (hok : es.all (Ent.ok G) = true) (hG : ∀ p ∈ G.fns, ∃ e ∈ es, p = (e.f, e.d.np)) (O : Outer K mg G) (hh : ∀ e ∈ es, Held K mg e) :
    ∀ (k : Nat), ∀ e ∈ es, ∀ a fd, Fun K e.f e.f e.st a fd → FnOk P w K mg base (L2.CX P w) k a fd e.ps (spF K (run (tab es) k) e.f e.d.np)
  | 0, e, he, a, fd, F => by
    have no : ∀ vs H Q E, ¬ spF K (run (tab es) 0) e.f e.d.np vs H Q E := fun vs H Q E ⟨_, _, _, _, _, _, h⟩ => h
    exact ⟨fun vs H Q E h => absurd h (no vs H Q E), fun A outer s H args us vs Q E _ _ _ _ h => absurd h (no vs H Q E)⟩
  | k + 1, e, he, a, fd, F => by
    have h := List.all_eq_true.mp hok e he
    unfold Ent.ok at h
    simp only [Bool.and_eq_true, decide_eq_true_eq] at h
    obtain ⟨⟨⟨h1, h2⟩, h3⟩, h4⟩ := h
    refine fn_snd (T := run (tab es) k) F (scope_of h1) h2 h3 h4 O (fun f n hf => ?_) (fun xs S => ?_)
    · obtain ⟨e', he', heq⟩ := hG (f, n) hf
      cases heq
      obtain ⟨a', fd', F', b', m'⟩ := hh e' he'
      exact ⟨a', fd', e'.ps, all_snd hn hok hG O hh k e' he' a' fd' F', m', F'.kp, b'⟩
    · show (match tab es e.f with | some d => runD (run (tab es) k) d xs S | none => .bad) = _
      rw [tab_mem hn he]
end
end Fe

/-! Fec: the law's end -/
namespace Fe
open PySem L2
theorem rvs_ints {K : PySem.W.Frag} {ρ : List Addr} {H : Hp} : ∀ ns : List Int, RVs K ρ H (ns.map V.int) (ns.map Val.int)
  | [] => .nil
  | n :: r => .cons (.int n) (rvs_ints r)
theorem law_sp {K : PySem.W.Frag} {es : List Ent} {k : Nat} {f : Str} (hrun : ∀ ns : List Int, ns.length ≤ 63 → ∃ S', run (tab es) k f [.fls (ns.map Val.int)] [] = .ok (.v (.bl true)) S')
    (H : Hp) (a : Addr) (ns : List Int) (hl : ns.length ≤ 63) (hO : Only H) (hS : SqL K H a (ns.map V.int)) : spF K (run (tab es) k) f 1 [.ref a] H (fun v _ => v = .bl true) fun _ _ _ => False := by
  obtain ⟨S', h⟩ := hrun ns hl
  refine ⟨[], [], [.fls (ns.map Val.int)], rfl, .cons (.fls ?_ (rvs_ints ns)) .nil, ⟨rfl, List.nodup_nil, fun l a o h _ => by simp at h⟩, ?_⟩
  · rcases hS with (h | h) | h
    · rcases hO a with z | ⟨o, xs, z⟩
      · rw [h] at z; cases z
      · rw [h] at z; cases z
    · exact .inl h
    · exact .inr h
  · rw [h]
    intro ρ' H' _ _ v hv _
    exact hv.bl
theorem cx_no {P : Program} {w : World} {H : Hp} {s : Shared} {e : Value} {s' : Shared} (h : L2.CX P w [] H s (fun _ _ _ => False) e s') : False := by
  obtain ⟨_, _, _, _, _, _, _, _, _, _, _, _, z⟩ := h
  exact z.elim
/-- the promise of the law's def -/
theorem law_fn {l : PySem.W.OpenLaw} {w : World} {K : PySem.W.Frag} {mg : Str → Option Value} {fa : Addr} {G : Glb} {es : List Ent} {e : Ent} {x : Str} {k : Nat} (hn : (es.map (·.f)).Nodup) (hok : es.all (Ent.ok G) = true) (hG : ∀ p ∈ G.fns, ∃ e ∈ es, p = (e.f, e.d.np))
    (O : Outer K mg G) (hh : ∀ e ∈ es, Held K mg e) (he : e ∈ es) (hnp : e.d.np = 1) (hps : e.ps = [x]) (hfa : mg e.f = some (.ref fa)) {fd : FuncData} (F : Fun K e.f e.f e.st fa fd) (hb : ∀ (s : Shared) (u : Value), BindsTo s fd ⟨[u], []⟩ [(x, u)]) :
    ∃ fd : FuncData, (∀ (s : Shared) (u : Value), BindsTo s fd ⟨[u], []⟩ [(x, u)]) ∧ ∀ base : Heap, K.In base → base.Ns mainGlobals mg → FnOk l.prog w K mg base (L2.CX l.prog w) k fa fd [x] (spF K (run (tab es) k) e.f 1) := by
  refine ⟨fd, hb, fun base _ _ => ?_⟩
  have := all_snd (P := l.prog) (w := w) (base := base) hn hok hG O hh k e he fa fd F
  rw [hnp, hps] at this
  exact this
end Fe
namespace Fe
open PySem L2
theorem held {K : PySem.W.Frag} {h : Heap} {mg : Str → Option Value} {e : Ent} (X : K.In h) (Gl : h.Ns mainGlobals mg) {f1 : Addr} {od an : Option Addr} {sl : Array (Option Value)} {oc kV dc pm cd ct : Value}
    (a1 : PySem.W.nsIn K mainGlobals e.f = some (some (.ref f1))) (l1 : K.lookup f1 = some ⟨oc, od, .func (PySem.W.fnOf e.f e.f (defArgs e.st) (defBody e.st) (defScope e.st) .none kV dc pm an cd ct), sl⟩) (c1 : PySem.W.codeIn K cd e.f = true) (k1 : PySem.W.keepIn K (.ref f1) = true)
    (hb : ∀ (kV doc pm : Value) (an : Option Addr) (cdv ct : Value) (us : List Value), us.length = e.ps.length → bindArgs (PySem.W.fnOf e.f e.f (defArgs e.st) (defBody e.st) (defScope e.st) .none kV doc pm an cdv ct) ⟨us, []⟩ = pure (e.ps.zip us)) : Held K mg e := by
  have F := fun_mk (st := e.st) l1 c1 k1
  exact ⟨f1, _, F, F.binds hb, PySem.W.mg_of X Gl a1⟩
theorem law_of {l : PySem.W.OpenLaw} {w : World} {K : PySem.W.Frag} {mg : Str → Option Value} {fa : Addr} {G : Glb} {es : List Ent} {e : Ent} {x : Str} {k : Nat} (hn : (es.map (·.f)).Nodup) (hok : es.all (Ent.ok G) = true) (hG : ∀ p ∈ G.fns, ∃ e ∈ es, p = (e.f, e.d.np))
    (O : Outer K mg G) (hh : ∀ e ∈ es, Held K mg e) (he : e ∈ es) (hnp : e.d.np = 1) (hps : e.ps = [x]) (hfa : mg e.f = some (.ref fa))
    (hb : ∀ (kV doc pm : Value) (an : Option Addr) (cdv ct : Value) (u : Value), bindArgs (PySem.W.fnOf e.f e.f (defArgs e.st) (defBody e.st) (defScope e.st) .none kV doc pm an cdv ct) ⟨[u], []⟩ = pure [(x, u)]) :
    ∃ fd : FuncData, (∀ (s : Shared) (u : Value), BindsTo s fd ⟨[u], []⟩ [(x, u)]) ∧ ∀ base : Heap, K.In base → base.Ns mainGlobals mg → FnOk l.prog w K mg base (L2.CX l.prog w) k fa fd [x] (spF K (run (tab es) k) e.f 1) := by
  obtain ⟨a, fd, F, b, m⟩ := hh e he
  have e1 := hfa.symm.trans m
  cases e1
  refine law_fn hn hok hG O hh he hnp hps hfa F fun s u => ?_
  obtain ⟨oc, od, kV, doc, pm, an, cdv, ct, osl, rfl, lk, hcd⟩ := F.ex
  exact .of_eq (hb kV doc pm an cdv ct u)
/-! ### constants of the modules -/
def GV (K : PySem.W.Frag) (u : Value) (v : Val) : Prop := ∃ w, RelV w u ∧ ∀ ρ H, RV K ρ H w v
def GVs (K : PySem.W.Frag) : List Value → List Val → Prop
  | [], [] => True
  | u :: us, v :: vs => GV K u v ∧ GVs K us vs
  | _, _ => False
theorem GV.int {K : PySem.W.Frag} {i : Int} {t : Tok} : GV K (.int i t) (.int i) := ⟨.int i, ⟨t, rfl⟩, fun _ _ => .int i⟩
theorem GV.str {K : PySem.W.Frag} {i : Str} {t : Tok} : GV K (.str i t) (.str i) := ⟨.str i, ⟨t, rfl⟩, fun _ _ => .str i⟩
theorem GVs.vals {K : PySem.W.Frag} : ∀ {us : List Value} {vs : List Val}, GVs K us vs → ∃ ws, Vals ws us ∧ ∀ ρ H, RVs K ρ H ws vs
  | [], [], _ => ⟨[], .nil, fun _ _ => .nil⟩
  | u :: us, v :: vs, h => by
    obtain ⟨⟨w, r, hw⟩, h2⟩ := h
    obtain ⟨ws, rs, hws⟩ := GVs.vals h2
    exact ⟨w :: ws, .cons r rs, fun ρ H => .cons (hw ρ H) (hws ρ H)⟩
  | [], _ :: _, h => h.elim
  | _ :: _, [], h => h.elim
theorem GV.tup {K : PySem.W.Frag} {a : Addr} {od : Option Addr} {its : Array Value} {n : Nat} {sl : Array (Option Value)} {xs : List Val} (l : K.lookup a = some ⟨.type "tuple", od, .seq its n, sl⟩) (hz : its.size ≤ sizeLine) (h : GVs K its.toList xs) : GV K (.ref a) (.tup xs) := by
  obtain ⟨ws, rs, hws⟩ := h.vals
  exact ⟨.ref a, rfl, fun ρ H => .tup (.inr ⟨_, its, n, l, rfl, rfl, hz, rs⟩) (hws ρ H)⟩
theorem glob_of {K : PySem.W.Frag} {h : Heap} {mg : Str → Option Value} {x : Str} {u : Value} {v : Val} (X : K.In h) (G : h.Ns mainGlobals mg) (e : PySem.W.nsIn K mainGlobals x = some (some u)) (g : GV K u v) : ∃ u w, mg x = some u ∧ RelV w u ∧ ∀ ρ H, RV K ρ H w v := by
  obtain ⟨w, r, hw⟩ := g
  exact ⟨u, w, PySem.W.mg_of X G e, r, hw⟩
/-! ### classes of errors -/
theorem ec_of {K : PySem.W.Frag} {h : Heap} {mg : Str → Option Value} {ask sups : List Str} {c : Str} {C : Addr} (X : K.In h) (G : h.Ns mainGlobals mg) (ns : PySem.W.nsIn K mainGlobals c = some (some (.ref C))) (kp : PySem.W.keepIn K (.ref C) = true)
    (ex : PySem.W.excIn K C [.type "ValueError", .type "Exception", .type "BaseException", .type "object"] "ValueError.__new__" = true) (sb : PySem.W.subIn K (.ref C) (.type "BaseException") = some true) (ty : PySem.W.typeIn K (.ref C) = some (.type "type"))
    (e1 : PySem.W.findIn K (.ref C) "__getattribute__" = some (some (.builtin "BaseException.__getattribute__"))) (e2 : PySem.W.findIn K (.ref C) "__getattr__" = some none) (e3 : PySem.W.subIn K (.ref C) (.type "BaseException") = some true) (e4 : PySem.W.hasDictIn K C = true)
    (e5 : PySem.W.findIn K (.ref C) "__class__" = some (some (.builtin "object.__class__"))) (e6 : PySem.W.specialIn K (.builtin "object.__class__") "__get__" = some (some (.builtin "getset_descriptor.__get__"))) (e7 : PySem.W.takesIn K (.builtin "object.__class__") = some true) (e8 : PySem.W.mroIn K C (.type "object") = some true)
    (as : ∀ n ∈ ask, ∃ (cv : Value) (v : V), (mg n = some cv ∨ (mg n = none ∧ bootBuiltins n = some cv ∧ n ≠ "__name__")) ∧ RelV v cv ∧ (∀ u, RelV v u → u = cv) ∧ PySem.W.kitOne K (.ref C) cv = some (sups.contains n) ∧ PySem.W.exmOne K (.ref C) cv = some (sups.contains n)) : EC K mg ask c sups C :=
  ⟨ns, PySem.W.mg_of X G ns, kp, ex, sb, ty, ⟨e1, e2, e3, e4, e5, e6, e7, e8⟩, as⟩
theorem as_own {K : PySem.W.Frag} {h : Heap} {mg : Str → Option Value} {sups : List Str} {n : Str} {C D : Addr} {b : Bool} (X : K.In h) (G : h.Ns mainGlobals mg) (ns : PySem.W.nsIn K mainGlobals n = some (some (.ref D))) (bs : PySem.W.subIn K (.ref D) (.type "BaseException") = some true) (ic : PySem.W.isClsIn K D = true) (ty : PySem.W.typeIn K (.ref D) = some (.type "type")) (sb : PySem.W.subIn K (.ref C) (.ref D) = some b) (hcd : C = D → b = true) (hb : sups.contains n = b) :
    ∃ (cv : Value) (v : V), (mg n = some cv ∨ (mg n = none ∧ bootBuiltins n = some cv ∧ n ≠ "__name__")) ∧ RelV v cv ∧ (∀ u, RelV v u → u = cv) ∧ PySem.W.kitOne K (.ref C) cv = some (sups.contains n) ∧ PySem.W.exmOne K (.ref C) cv = some (sups.contains n) := by
  rw [hb]
  have e1 : (PySem.W.subIn K (.ref D) (.type "BaseException") == some true) = true := by rw [bs] <;> rfl
  have ic' : (PySem.W.clsIn K D).isSome = true := ic
  have e2 : ((PySem.W.clsIn K D).isSome && PySem.W.typeIn K (.ref D) == some (.type "type")) = true := by
    rw [ic', ty] <;> rfl
  have kc : PySem.W.kitCls K (.ref C) (.ref D) = some b := by
    show (if ((PySem.W.clsIn K D).isSome && PySem.W.typeIn K (.ref D) == some (.type "type")) = true then PySem.W.subIn K (.ref C) (.ref D) else none) = some b
    rw [if_pos e2]
    exact sb
  refine ⟨.ref D, .ref D, .inl (PySem.W.mg_of X G ns), rfl, fun u r => r, ?_, ?_⟩
  · unfold PySem.W.kitOne
    split
    · rename_i q
      have q' : (Value.ref C) = .ref D := eq_of_beq q
      cases q'
      rw [hcd rfl]
    · exact kc
  · unfold PySem.W.exmOne
    rw [if_pos e1]
    exact kc
theorem as_blt {K : PySem.W.Frag} {h : Heap} {mg : Str → Option Value} {sups : List Str} {n : Str} {C : Addr} {t : String} {b : Bool} (X : K.In h) (G : h.Ns mainGlobals mg) (ns : PySem.W.nsIn K mainGlobals n = some none) (hv : bootBuiltins n = some (.type t)) (hn : n ≠ "__name__") (hm : PySem.W.kitMeta t = true) (bs : PySem.W.subIn K (.type t) (.type "BaseException") = some true) (sb : PySem.W.subIn K (.ref C) (.type t) = some b) (hb : sups.contains n = b) :
    ∃ (cv : Value) (v : V), (mg n = some cv ∨ (mg n = none ∧ bootBuiltins n = some cv ∧ n ≠ "__name__")) ∧ RelV v cv ∧ (∀ u, RelV v u → u = cv) ∧ PySem.W.kitOne K (.ref C) cv = some (sups.contains n) ∧ PySem.W.exmOne K (.ref C) cv = some (sups.contains n) := by
  rw [hb]
  have e1 : (PySem.W.subIn K (.type t) (.type "BaseException") == some true) = true := by rw [bs] <;> rfl
  have kc : PySem.W.kitCls K (.ref C) (.type t) = some b := by
    show (if PySem.W.kitMeta t = true then PySem.W.subIn K (.ref C) (.type t) else none) = some b
    rw [if_pos hm]
    exact sb
  refine ⟨.type t, .ty t, .inr ⟨PySem.W.mg_none_of X G ns, hv, hn⟩, rfl, fun u r => r, ?_, ?_⟩
  · unfold PySem.W.kitOne
    rw [if_neg (by intro q; exact Value.noConfusion (eq_of_beq q))]
    exact kc
  · unfold PySem.W.exmOne
    rw [if_pos e1]
    exact kc
end Fe

/-! Fed: plain equations of the interpreter -/
namespace Fe
open PySem
theorem run_eq {P : Str → Option Fd} {f : Str} {d : Fd} (h : P f = some d) (k : Nat) (xs : List Val) (S : Sto) : run P (k + 1) f xs S = runD (run P k) d xs S := by
  show (match P f with | some d => runD (run P k) d xs S | none => .bad) = _
  rw [h]
section
variable {α β : Type} {T : Fns} {S S' : Sto} {env : Env}
@[simp] theorem bind_ok (a : α) (S : Sto) (f : α → Sto → Res β) : (Res.ok a S).bind f = f a S := id rfl
@[simp] theorem bind_exc (x : Exn) (S : Sto) (f : α → Sto → Res β) : (Res.exc x S : Res α).bind f = .exc x S := id rfl
@[simp] theorem bind_bad (f : α → Sto → Res β) : (Res.bad : Res α).bind f = .bad := id rfl
@[simp] theorem st_ok (a : α) (S : Sto) (env : Env) (f : α → Sto → SR) : (Res.ok a S).st env f = f a S := id rfl
@[simp] theorem st_exc (x : Exn) (S : Sto) (env : Env) (f : α → Sto → SR) : (Res.exc x S : Res α).st env f = .exc x env S := id rfl
@[simp] theorem st_bad (env : Env) (f : α → Sto → SR) : (Res.bad : Res α).st env f = .bad := id rfl
@[simp] theorem sbind_nx (env : Env) (S : Sto) (f : Env → Sto → SR) : (SR.ok .nx env S).bind f = f env S := id rfl
@[simp] theorem sbind_rt (r : Rv) (env : Env) (S : Sto) (f : Env → Sto → SR) : (SR.ok (.rt r) env S).bind f = .ok (.rt r) env S := id rfl
@[simp] theorem sbind_bk (env : Env) (S : Sto) (f : Env → Sto → SR) : (SR.ok .bk env S).bind f = .ok .bk env S := id rfl
@[simp] theorem sbind_ct (env : Env) (S : Sto) (f : Env → Sto → SR) : (SR.ok .ct env S).bind f = .ok .ct env S := id rfl
@[simp] theorem sbind_exc (x : Exn) (env : Env) (S : Sto) (f : Env → Sto → SR) : (SR.exc x env S).bind f = .exc x env S := id rfl
@[simp] theorem sbind_bad (f : Env → Sto → SR) : (SR.bad).bind f = .bad := id rfl
@[simp] theorem of_some (a : α) (S : Sto) : Res.of (some a) S = .ok a S := id rfl
@[simp] theorem of_none (S : Sto) : Res.of (none : Option α) S = .bad := id rfl
@[simp] theorem nox_ok (a : α) (S : Sto) : (Res.ok a S).nox = .ok a S := id rfl
@[simp] theorem lay_v (x : Val) (S : Sto) : lay (.v x) S = (x, S) := id rfl
@[simp] theorem lay_t (o : Ob) (S : Sto) : lay (.t o) S = (.ref S.length, S ++ [o]) := id rfl
@[simp] theorem guardL_nil' (S : Sto) (r : Res α) : guardL [] S r = r := guardL_nil S r
@[simp] theorem guardS_nil' (S : Sto) (r : SR) : guardS [] S r = r := guardS_nil S r
/-- no place of the store -/
def nref : Val → Bool
  | .ref _ => false
  | _ => true
theorem cut_same (x : Val) (S : Sto) (h : nref x = true) : cut S.length (.v x) S = .ok (.v x) S := by
  unfold cut
  rw [List.take_length]
  split
  · cases x <;> first | (cases h; done) | (dsimp only; split <;> rfl)
  · rfl
@[simp] theorem cut_int (i : Int) (S : Sto) : cut S.length (.v (.int i)) S = .ok (.v (.int i)) S := cut_same _ S rfl
@[simp] theorem cut_bl (i : Bool) (S : Sto) : cut S.length (.v (.bl i)) S = .ok (.v (.bl i)) S := cut_same _ S rfl
@[simp] theorem cut_str (i : Str) (S : Sto) : cut S.length (.v (.str i)) S = .ok (.v (.str i)) S := cut_same _ S rfl
@[simp] theorem cut_tup (i : List Val) (S : Sto) : cut S.length (.v (.tup i)) S = .ok (.v (.tup i)) S := cut_same _ S rfl
@[simp] theorem cut_non (S : Sto) : cut S.length (.v .non) S = .ok (.v .non) S := cut_same _ S rfl
@[simp] theorem tru_bl (S : Sto) (b : Bool) : truR S (.v (.bl b)) = some b := id rfl
@[simp] theorem shaped_int (i : Int) : SeqAt.shaped (.int i) = true := id rfl
@[simp] theorem eqR_int (S : Sto) (i j : Int) : eqR S (.v (.int i)) (.v (.int j)) = some (i == j) := by
  simp [eqR, datR, Val.bel, Val.pd, PyData.eqv]
@[simp] theorem shaped_bl (i : Bool) : SeqAt.shaped (.bool i) = true := id rfl
@[simp] theorem eqR_bl (S : Sto) (i j : Bool) : eqR S (.v (.bl i)) (.v (.bl j)) = some (i == j) := by
  simp [eqR, datR, Val.bel, Val.pd, PyData.eqv]
@[simp] theorem ltR_int (i j : Int) : ltR (.int i) (.int j) = some (decide (i < j)) := id rfl

/-! ### one equation a construct -/
section
variable (T : Fns) (env : Env) (S : Sto) (a b c : E) (es : Es)
@[simp] theorem evE_var (i : Nat) : evE T (.var i) env S = match env[i]? with | some (some x) => .ok (.v x) S | _ => .bad := id rfl
@[simp] theorem evE_cst (x : Val) : evE T (.cst x) env S = .ok (.v x) S := id rfl
@[simp] theorem evE_glb (x : Str) (v : Val) : evE T (.glb x v) env S = .ok (.v v) S := id rfl
@[simp] theorem evE_tup : evE T (.tup es) env S = (evA T es env S).bind fun xs S => .ok (.v (.tup xs)) S := id rfl
@[simp] theorem evE_lst : evE T (.lst es) env S = (evA T es env S).bind fun xs S => .ok (.t (.lst xs)) S := id rfl
@[simp] theorem evE_join (m : Str) : evE T (.join m a) env S = (evE T a env S).bind fun x S => (Res.of (joinR S m x) S).bind fun z S => .ok (.v z) S := id rfl
@[simp] theorem evE_maxd (d : Int) : evE T (.maxd a d) env S = (evE T a env S).bind fun x S => (Res.of (maxdR S d x) S).bind fun z S => .ok (.v z) S := id rfl
@[simp] theorem evE_dic0 : evE T .dic0 env S = .ok (.t (.dic [])) S := id rfl
@[simp] theorem evE_bin (o : Bop) : evE T (.bin o a b) env S = (evE T a env S).bind fun x S => (evE T b env S).bind fun y S => .of (binR S o x y) S := id rfl
@[simp] theorem evE_neg : evE T (.neg a) env S = (evE T a env S).bind fun x S => match x with | .v (.int i) => .ok (.v (.int (-i))) S | _ => .bad := id rfl
@[simp] theorem evE_cmp (o : Cop) : evE T (.cmp o a b) env S = (evE T a env S).bind fun x S => (evE T b env S).bind fun y S => (Res.of (cmpR S o x y) S).bind fun k S => .ok (.v (.bl k)) S := id rfl
@[simp] theorem evE_and : evE T (.and a b) env S = (evE T a env S).bind fun x S => (Res.of (truR S x) S).bind fun k S => if k = true then evE T b env S else .ok x S := id rfl
@[simp] theorem evE_or : evE T (.or a b) env S = (evE T a env S).bind fun x S => (Res.of (truR S x) S).bind fun k S => if k = true then .ok x S else evE T b env S := id rfl
@[simp] theorem evE_not : evE T (.not a) env S = (evE T a env S).bind fun x S => (Res.of (truR S x) S).bind fun k S => .ok (.v (.bl (!k))) S := id rfl
@[simp] theorem evE_ite : evE T (.ite c a b) env S = (evT T c env S).bind fun k S => if k = true then evE T a env S else evE T b env S := id rfl
@[simp] theorem evE_call (f : Str) : evE T (.call f es) env S = (evA T es env S).bind fun xs S1 => (T f xs S1).bind fun r S2 => cut S.length r S2 := id rfl
@[simp] theorem evE_blt (f : Bf) : evE T (.blt f es) env S = (evR T es env S).bind fun rs S => .of (bltR S f rs) S := id rfl
@[simp] theorem evE_isi (t : Ty) : evE T (.isi a t) env S = (evE T a env S).bind fun x S => (Res.of (isiR S x t) S).bind fun k S => .ok (.v (.bl k)) S := id rfl
@[simp] theorem evE_isiT (ts : List Ty) : evE T (.isiT a ts) env S = (evE T a env S).bind fun x S => (Res.of (isiTR S x ts) S).bind fun k S => .ok (.v (.bl k)) S := id rfl
@[simp] theorem evE_fz : evE T (.fz a) env S = (evE T a env S).bind fun x S => (Res.of (frzR x) S).bind fun z S => .ok (.v z) S := id rfl
@[simp] theorem evE_call0 (f : Str) : evE T (.call0 f) env S = ((T f [] S).nox).bind fun r S2 => cut S.length r S2 := id rfl
@[simp] theorem evT_isiT (ts : List Ty) : evT T (.isiT a ts) env S = (evE T (.isiT a ts) env S).bind fun x S => .of (truR S x) S := id rfl
@[simp] theorem evT_call0 (f : Str) : evT T (.call0 f) env S = (evE T (.call0 f) env S).bind fun x S => .of (truR S x) S := id rfl
@[simp] theorem evE_met (m : Mf) : evE T (.met m a es) env S = (evE T a env S).bind fun x S => match x with
    | .v (.ref l) => match S[l]? with
      | some (.lst _) => (evA T es env S).bind fun xs S => (Res.of (metR m l xs S) S).bind fun p _ => .ok p.1 p.2
      | _ => .bad
    | _ => .bad := rfl
@[simp] theorem evE_ext : evE T (.ext a b) env S = (evE T a env S).bind fun x S => match x with
    | .v (.ref l) => match S[l]? with
      | some (.lst _) => (evE T b env S).bind fun y S => (Res.of (extR l y S) S).bind fun p _ => .ok p.1 p.2
      | _ => .bad
    | _ => .bad := rfl
@[simp] theorem evE_ix : evE T (.ix a b) env S = (evE T a env S).bind fun x S => (evE T b env S).bind fun y S => match y with
    | .v (.int i) => (Res.of (ixR S x i) S).bind fun z S => .ok (.v z) S
    | .v (.str k) => (Res.of ((dicW S x).bind (dval (.str k))) S).bind fun z S => .ok (.v z) S
    | _ => .bad := rfl
@[simp] theorem evE_sl (lo hi : Eo) : evE T (.sl a lo hi) env S = (evE T a env S).bind fun x S => (evO T lo env S).bind fun l S => (evO T hi env S).bind fun h S => .of (slR S x l h) S := id rfl
@[simp] theorem evE_rep : evE T (.rep a b) env S = (evE T a env S).bind fun x S => (evE T b env S).bind fun y S => .of (repR S x y) S := id rfl
@[simp] theorem evE_rev : evE T (.rev a) env S = (evE T a env S).bind fun x S => .of (revR S x) S := id rfl
theorem evE_comp (own : List Nat) (tg : Tg) (it : It) (cd : Eo) : evE T (.comp own tg it cd a) env S = (evI T it env S).bind fun src S => if src.items.length ≤ sizeLine then (compL (evC T cd) (evE T a) tg (wipeE env own) src.live src.items [] S).nox else .bad := rfl
@[simp] theorem evT_and : evT T (.and a b) env S = (evT T a env S).bind fun k S => if k = true then evT T b env S else .ok false S := id rfl
@[simp] theorem evT_or : evT T (.or a b) env S = (evT T a env S).bind fun k S => if k = true then .ok true S else evT T b env S := id rfl
@[simp] theorem evT_not : evT T (.not a) env S = (evT T a env S).bind fun k S => .ok (!k) S := id rfl
@[simp] theorem evT_var (i : Nat) : evT T (.var i) env S = (evE T (.var i) env S).bind fun x S => .of (truR S x) S := id rfl
@[simp] theorem evT_cst (x : Val) : evT T (.cst x) env S = .of (truR S (.v x)) S := id rfl
@[simp] theorem evT_cmp (o : Cop) : evT T (.cmp o a b) env S = (evE T (.cmp o a b) env S).bind fun x S => .of (truR S x) S := id rfl
@[simp] theorem evT_call (f : Str) : evT T (.call f es) env S = (evE T (.call f es) env S).bind fun x S => .of (truR S x) S := id rfl
@[simp] theorem evT_blt (f : Bf) : evT T (.blt f es) env S = (evE T (.blt f es) env S).bind fun x S => .of (truR S x) S := id rfl
@[simp] theorem evT_isi (t : Ty) : evT T (.isi a t) env S = (evE T (.isi a t) env S).bind fun x S => .of (truR S x) S := id rfl
@[simp] theorem evT_ix : evT T (.ix a b) env S = (evE T (.ix a b) env S).bind fun x S => .of (truR S x) S := id rfl
@[simp] theorem evA_nil : evA T .nil env S = .ok [] S := id rfl
@[simp] theorem evA_cons : evA T (.cons a es) env S = (evE T a env S).bind fun x S => (evA T es env (lay x S).2).bind fun xs S' => .ok ((lay x S).1 :: xs) S' := id rfl
@[simp] theorem evR_nil : evR T .nil env S = .ok [] S := id rfl
@[simp] theorem evR_cons : evR T (.cons a es) env S = (evE T a env S).bind fun x S => (evR T es env S).bind fun xs S => .ok (x :: xs) S := id rfl
@[simp] theorem evO_none : evO T .none env S = .ok none S := id rfl
@[simp] theorem evO_some : evO T (.some a) env S = (evE T a env S).bind fun x S => match x with | .v (.int i) => .ok (some i) S | _ => .bad := id rfl
theorem evC_none : evC T .none = fun _ S => .ok true S := rfl
theorem evC_some : evC T (.some a) = evT T a := rfl
@[simp] theorem evI_e : evI T (.e a) env S = (evE T a env S).bind fun x S => .of (srcOf S x) S := id rfl
@[simp] theorem evI_rg1 : evI T (.rg1 a) env S = (evE T a env S).bind fun x S => .of (rangeR [x]) S := id rfl
@[simp] theorem evI_rg2 : evI T (.rg2 a b) env S = (evE T a env S).bind fun x S => (evE T b env S).bind fun y S => .of (rangeR [x, y]) S := id rfl
@[simp] theorem evI_enum : evI T (.enum a) env S = (evE T a env S).bind fun x S => (Res.of (if (isLst S x || isTup x) = true then srcOf S x else none) S).bind fun s S => .ok ⟨enumFrom 0 s.items, s.live⟩ S := id rfl
@[simp] theorem evI_zip : evI T (.zip a b) env S = (evE T a env S).bind fun x S => (evE T b env S).bind fun y S => (Res.of (if (isTup x && isTup y || isLst S x && isLst S y) = true then srcOf S x else none) S).bind fun s S => (Res.of (srcOf S y) S).bind fun s' S => .ok ⟨zipV s.items s'.items, s.live ++ s'.live⟩ S := id rfl
@[simp] theorem evI_rvr : evI T (.rvr a) env S = (evE T a env S).bind fun x S => (Res.of (rangeR [x]) S).bind fun s S => .ok (revRng s) S := id rfl
@[simp] theorem evI_rv : evI T (.rv a) env S = (evE T a env S).bind fun x S => (Res.of (if isLst S x = true then srcOf S x else none) S).bind fun s S => .ok ⟨s.items.reverse, s.live⟩ S := id rfl
variable (p q : Cs)
@[simp] theorem evS_set (i : Nat) : evS T (.set i a) env S = (evE T a env S).st env fun r S => .ok .nx (env.set i (some (lay r S).1)) (lay r S).2 := id rfl
@[simp] theorem evS_asg (t : Tg) : evS T (.asg t a) env S = (evE T a env S).st env fun r S => match r with
    | .v x => match asgT t x env with
      | some env' => .ok .nx env' S
      | none => match (lstW S (.v x)).bind fun xs => asgL t xs env with
        | some env' => .ok .nx env' S
        | none => .bad
    | .t (.lst xs) => match asgL t xs env with
      | some env' => .ok .nx env' S
      | none => .bad
    | _ => .bad := rfl
@[simp] theorem evS_par (i j : Nat) : evS T (.par i j a b) env S = (evA T (.cons a (.cons b .nil)) env S).st env fun xs S => match xs with
    | [x, y] => .ok .nx ((env.set i (some x)).set j (some y)) S
    | _ => .bad := rfl
@[simp] theorem evS_setIx : evS T (.setIx a b c) env S = (evE T c env S).st env fun r S => (evE T a env (lay r S).2).st env fun x S' => (evE T b env S').st env fun y S' => match x, y with
    | .v (.ref l), .v (.int k) => match setIxR l k (lay r S).1 S' with
      | some S'' => .ok .nx env S''
      | none => .bad
    | .v (.ref l), .v (.str k) => match setKeyR l k (lay r S).1 S' with
      | some S'' => .ok .nx env S''
      | none => .bad
    | _, _ => .bad := rfl
@[simp] theorem evS_aug (i : Nat) (o : Bop) : evS T (.aug i o a) env S = match env[i]? with
    | some (some x) => (evE T a env S).st env fun y S => (Res.of (augR o x y) S).st env fun z S => .ok .nx (env.set i (some z)) S
    | _ => .bad := rfl
@[simp] theorem evS_ex : evS T (.ex a) env S = (evE T a env S).st env fun _ S => .ok .nx env S := id rfl
@[simp] theorem evS_retN : evS T (.ret .none) env S = .ok (.rt (.v .non)) env S := id rfl
@[simp] theorem evS_ret : evS T (.ret (.some a)) env S = (evE T a env S).st env fun r S => .ok (.rt r) env S := id rfl
@[simp] theorem evS_ite : evS T (.ite a p q) env S = (evT T a env S).st env fun k S => if k = true then evB T p env S else evB T q env S := id rfl
@[simp] theorem evS_wh : evS T (.wh a p) env S = whL (evT T a) (evB T p) whFuel env S := id rfl
@[simp] theorem evS_for (t : Tg) (it : It) : evS T (.for t it p) env S = (evI T it env S).st env fun src S => forL (evB T p) t src.live src.items env S := id rfl
@[simp] theorem evS_pass : evS T .pass env S = .ok .nx env S := id rfl
@[simp] theorem evS_cont : evS T .cont env S = .ok .ct env S := id rfl
@[simp] theorem evS_brk : evS T .brk env S = .ok .bk env S := id rfl
@[simp] theorem evS_rse (c m : Str) : evS T (.rse c m) env S = .exc ⟨c, []⟩ env S := id rfl
@[simp] theorem evS_tryE (tb : List (Str × List Str)) (c : Str) (i : Nat) (ifs : List (List Str)) (u v : Str) : evS T (.tryE tb p c i ifs u v) env S = meetE tb c ifs u v (evB T p env S) := id rfl
@[simp] theorem evS_tryH (ps : List Str) (c : Str) (i : Nat) (hs : Hl) : evS T (.tryH ps p c i hs) env S = meetH (evH T hs ps i) (evB T p env S) := id rfl
@[simp] theorem evH_nil (ps : List Str) (i : Nat) (x : Exn) : evH T .nil ps i x env S = if ps.contains x.cls = true then .exc x env S else .bad := id rfl
@[simp] theorem evH_cons (c : Str) (b : Cs) (r : Hl) (ps : List Str) (i : Nat) (x : Exn) : evH T (.cons c b r) ps i x env S = if x.cls = c then hEnd i (evB T b (env.set i none) S) else evH T r ps i x env S := id rfl
@[simp] theorem meetH_ok (f : Exn → Env → Sto → SR) (r : Fl) : meetH f (.ok r env S) = .ok r env S := id rfl
@[simp] theorem meetH_exc (f : Exn → Env → Sto → SR) (x : Exn) : meetH f (.exc x env S) = f x env S := id rfl
@[simp] theorem hEnd_ok (i : Nat) (r : Fl) : hEnd i (.ok r env S) = .ok r (env.set i none) S := id rfl
@[simp] theorem evS_never : evS T .never env S = .bad := id rfl
@[simp] theorem evB_nil : evB T .nil env S = .ok .nx env S := id rfl
@[simp] theorem evB_cons (d : C) : evB T (.cons d p) env S = (evS T d env S).bind fun env S => evB T p env S := id rfl
@[simp] theorem evB_kill (is : List Nat) : evB T (.kill is p) env S = evB T p env S := id rfl
@[simp] theorem asgT_n (i : Nat) (x : Val) : asgT (.n i) x env = some (env.set i (some x)) := id rfl
@[simp] theorem asgL_t (ts : List Tg) (xs : List Val) (env : Env) : asgL (.t ts) xs env = asgTs ts xs env := id rfl
@[simp] theorem asgT_t (ts : List Tg) (xs : List Val) : asgT (.t ts) (.tup xs) env = asgTs ts xs env := id rfl
@[simp] theorem asgTs_nil : asgTs [] [] env = some env := id rfl
@[simp] theorem asgTs_cons (t : Tg) (ts : List Tg) (x : Val) (xs : List Val) : asgTs (t :: ts) (x :: xs) env = (asgT t x env).bind fun env' => asgTs ts xs env' := id rfl
@[simp] theorem wipeE_nil : wipeE env [] = env := id rfl
@[simp] theorem wipeE_cons (v : Nat) (vs : List Nat) : wipeE env (v :: vs) = (wipeE env vs).set v none := id rfl
end
@[simp] theorem frz_int (i : Int) : frzR (.v (.int i)) = some (.int i) := id rfl
@[simp] theorem frz_bl (i : Bool) : frzR (.v (.bl i)) = some (.bl i) := id rfl
@[simp] theorem frz_str (i : Str) : frzR (.v (.str i)) = some (.str i) := id rfl
@[simp] theorem frz_tup (i : List Val) : frzR (.v (.tup i)) = some (.tup i) := id rfl
@[simp] theorem frz_fls (i : List Val) : frzR (.v (.fls i)) = some (.fls i) := id rfl
@[simp] theorem frz_non : frzR (.v .non) = some .non := id rfl
@[simp] theorem frz_lst (i : List Val) : frzR (.t (.lst i)) = some (.fls i) := id rfl
@[simp] theorem isi_int (S : Sto) (i : Int) (t : Ty) : isiR S (.v (.int i)) t = some (isiB .int t) := id rfl
@[simp] theorem isi_bl (S : Sto) (i : Bool) (t : Ty) : isiR S (.v (.bl i)) t = some (isiB .bl t) := id rfl
@[simp] theorem isi_str (S : Sto) (i : Str) (t : Ty) : isiR S (.v (.str i)) t = some (isiB .str t) := id rfl
@[simp] theorem isi_tup (S : Sto) (i : List Val) (t : Ty) : isiR S (.v (.tup i)) t = some (isiB .tup t) := id rfl
@[simp] theorem isi_fls (S : Sto) (i : List Val) (t : Ty) : isiR S (.v (.fls i)) t = some (isiB .lst t) := id rfl
@[simp] theorem isi_non (S : Sto) (t : Ty) : isiR S (.v .non) t = some (isiB .non t) := id rfl
@[simp] theorem isi_tl (S : Sto) (i : List Val) (t : Ty) : isiR S (.t (.lst i)) t = some (isiB .lst t) := id rfl
@[simp] theorem isiB_ii : isiB .int .int = true := id rfl
@[simp] theorem isiB_ib : isiB .int .bl = false := id rfl
@[simp] theorem isiB_bb : isiB .bl .bl = true := id rfl
@[simp] theorem isiB_bi : isiB .bl .int = true := id rfl
@[simp] theorem isiB_tt : isiB .tup .tup = true := id rfl
@[simp] theorem isiB_it : isiB .int .tup = false := id rfl
@[simp] theorem isiB_ti : isiB .tup .int = false := id rfl
@[simp] theorem isiB_bt : isiB .bl .tup = false := id rfl
@[simp] theorem isiB_ss : isiB .str .str = true := id rfl
@[simp] theorem cmp_eq (S : Sto) (x y : Rv) : cmpR S .eq x y = eqR S x y := id rfl
@[simp] theorem cmp_ne (S : Sto) (x y : Rv) : cmpR S .ne x y = (eqR S x y).map (!·) := id rfl
@[simp] theorem cmp_lt (S : Sto) (x y : Val) : cmpR S .lt (.v x) (.v y) = ltR x y := id rfl
@[simp] theorem cmp_le (S : Sto) (x y : Int) : cmpR S .le (.v (.int x)) (.v (.int y)) = some (decide (x ≤ y)) := id rfl
@[simp] theorem cmp_gt (S : Sto) (x y : Int) : cmpR S .gt (.v (.int x)) (.v (.int y)) = some (decide (y < x)) := id rfl
@[simp] theorem cmp_ge (S : Sto) (x y : Int) : cmpR S .ge (.v (.int x)) (.v (.int y)) = some (decide (y ≤ x)) := id rfl
@[simp] theorem bin_add (S : Sto) (x y : Int) : binR S .add (.v (.int x)) (.v (.int y)) = some (.v (.int (x + y))) := id rfl
@[simp] theorem bin_sub (S : Sto) (x y : Int) : binR S .sub (.v (.int x)) (.v (.int y)) = some (.v (.int (x - y))) := id rfl
theorem bin_mul (S : Sto) (x y : Int) (h : mulOk x y = true) : binR S .mul (.v (.int x)) (.v (.int y)) = some (.v (.int (x * y))) := by simp [binR, h]
theorem bin_mod (S : Sto) (x y : Int) (h : 0 < y) : binR S .mod (.v (.int x)) (.v (.int y)) = some (.v (.int (x % y))) := by
  have : y ≠ 0 := by omega
  simp [binR, this, Int.fmod_eq_emod_of_nonneg x (by omega : 0 ≤ y)]
theorem bin_fdiv (S : Sto) (x y : Int) (h : 0 < y) (h2 : y < 1073741824) : binR S .fdiv (.v (.int x)) (.v (.int y)) = some (.v (.int (x / y))) := by
  have hd : divOk y = true := by
    unfold divOk
    simp only [Bool.or_eq_true, Bool.and_eq_true, decide_eq_true_eq]
    omega
  simp [binR, hd, Int.fdiv_eq_ediv_of_nonneg x (by omega : 0 ≤ y)]
@[simp] theorem blt_one (S : Sto) (f : Bf) (r : Rv) : bltR S f [r] = blt1 S f r := id rfl
@[simp] theorem blt_max2 (S : Sto) (i j : Int) : bltR S .max [.v (.int i), .v (.int j)] = some (.v (.int (if j > i then j else i))) := id rfl
@[simp] theorem blt_min2 (S : Sto) (i j : Int) : bltR S .min [.v (.int i), .v (.int j)] = some (.v (.int (if j < i then j else i))) := id rfl
@[simp] theorem len_tup (S : Sto) (xs : List Val) : blt1 S .len (.v (.tup xs)) = some (.v (.int xs.length)) := id rfl
@[simp] theorem len_fls (S : Sto) (xs : List Val) : blt1 S .len (.v (.fls xs)) = some (.v (.int xs.length)) := id rfl
@[simp] theorem len_tmp (S : Sto) (xs : List Val) : blt1 S .len (.t (.lst xs)) = some (.v (.int xs.length)) := id rfl
@[simp] theorem abs_int (S : Sto) (i : Int) : blt1 S .abs (.v (.int i)) = some (.v (.int (if i < 0 then -i else i))) := id rfl
@[simp] theorem tuple_tmp (S : Sto) (xs : List Val) : blt1 S .tuple (.t (.lst xs)) = some (.v (.tup xs)) := id rfl
@[simp] theorem list_tup (S : Sto) (xs : List Val) : blt1 S .list (.v (.tup xs)) = some (.t (.lst xs)) := id rfl
@[simp] theorem ix_tup (S : Sto) (xs : List Val) (i : Int) : ixR S (.v (.tup xs)) i = L2.atI xs i := id rfl
@[simp] theorem ix_tmp (S : Sto) (xs : List Val) (i : Int) : ixR S (.t (.lst xs)) i = L2.atI xs i := id rfl
@[simp] theorem ix_fls (S : Sto) (xs : List Val) (i : Int) : ixR S (.v (.fls xs)) i = L2.atI xs i := id rfl
@[simp] theorem src_tup (S : Sto) (xs : List Val) : srcOf S (.v (.tup xs)) = some ⟨xs, []⟩ := id rfl
@[simp] theorem src_fls (S : Sto) (xs : List Val) : srcOf S (.v (.fls xs)) = some ⟨xs, []⟩ := id rfl
@[simp] theorem src_tmp (S : Sto) (xs : List Val) : srcOf S (.t (.lst xs)) = some ⟨xs, []⟩ := id rfl
@[simp] theorem isTup_tup (xs : List Val) : isTup (.v (.tup xs)) = true := id rfl
@[simp] theorem isLst_tmp (S : Sto) (xs : List Val) : isLst S (.t (.lst xs)) = true := id rfl
@[simp] theorem isLst_fls (S : Sto) (xs : List Val) : isLst S (.v (.fls xs)) = true := id rfl
@[simp] theorem atI_zero {α : Type} (x : α) (xs : List α) : L2.atI (x :: xs) 0 = some x := by
  have := L2.atI_nat (xs := x :: xs) (j := 0) (v := x) rfl
  simpa using this
@[simp] theorem atI_one {α : Type} (x y : α) (xs : List α) : L2.atI (x :: y :: xs) 1 = some y := by
  have := L2.atI_nat (xs := x :: y :: xs) (j := 1) (v := y) rfl
  simpa using this
end
end Fe

/-! Fee: plain steps -/
namespace Fe
open PySem
def finS : SR → Res Rv
  | .ok (.rt r) _ S' => .ok r S'
  | .ok .nx _ S' => .ok (.v .non) S'
  | .exc x _ S' => .exc x S'
  | _ => .bad
theorem runD_eq (T : Fns) (d : Fd) (xs : List Val) (S : Sto) (h : xs.length = d.np) : runD T d xs S = finS (evB T d.body (startE d.n xs) S) := by
  unfold runD
  rw [if_pos h]
  rfl
theorem run_ok {P : Str → Option Fd} {f : Str} {d : Fd} (h : P f = some d) (k : Nat) (xs : List Val) (S : Sto) (hl : xs.length = d.np) : run P (k + 1) f xs S = finS (evB (run P k) d.body (startE d.n xs) S) := by
  rw [run_eq h, runD_eq _ _ _ _ hl]
section
variable {α β : Type} {c : Prop} [Decidable c] (S : Sto) (env : Env)
@[simp] theorem fin_rt (r : Rv) : finS (.ok (.rt r) env S) = .ok r S := id rfl
@[simp] theorem fin_nx : finS (.ok .nx env S) = .ok (.v .non) S := id rfl
@[simp] theorem fin_exc (x : Exn) : finS (.exc x env S) = .exc x S := id rfl
@[simp] theorem fin_bad : finS .bad = .bad := id rfl
@[simp] theorem fin_ite (a b : SR) : finS (if c then a else b) = if c then finS a else finS b := by split <;> rfl
@[simp] theorem bind_ite (a b : Res α) (f : α → Sto → Res β) : (if c then a else b).bind f = if c then a.bind f else b.bind f := by split <;> rfl
@[simp] theorem st_ite (a b : Res α) (f : α → Sto → SR) : (if c then a else b).st env f = if c then a.st env f else b.st env f := by split <;> rfl
@[simp] theorem sbind_ite (a b : SR) (f : Env → Sto → SR) : (if c then a else b).bind f = if c then a.bind f else b.bind f := by split <;> rfl
theorem cut_nr (x : Val) (n : Nat) (h : nref x = true) (hn : S.length = n) : cut n (.v x) S = .ok (.v x) S := by
  subst hn
  exact cut_same x S h
/-- a call whose answer is no reference and that leaves the store's length -/
theorem call_nr (T : Fns) (f : Str) (xs : List Val) (x : Val) (n : Nat) (S1 S2 : Sto) (h : T f xs S1 = .ok (.v x) S2) (hx : nref x = true) (hn : S2.length = n) : ((T f xs S1).bind fun r S2 => cut n r S2) = .ok (.v x) S2 := by
  rw [h]
  exact cut_nr S2 x n hx hn
@[simp] theorem nr_int (i : Int) : nref (.int i) = true := id rfl
@[simp] theorem nr_tup (i : List Val) : nref (.tup i) = true := id rfl
@[simp] theorem nr_bl (i : Bool) : nref (.bl i) = true := id rfl
@[simp] theorem nr_str (i : Str) : nref (.str i) = true := id rfl
@[simp] theorem nr_non : nref .non = true := id rfl
/-- a comprehension over things that stand still, with an element that leaves the store -/
theorem comp_map (cond : Env → Sto → Res Bool) (elt : Env → Sto → Res Rv) (tg : Tg) (env : Env) (S : Sto) (f : Val → Val) (hc : ∀ e, cond e S = .ok true S) :
    ∀ (xs acc : List Val), (∀ x ∈ xs, ∃ e1, asgT tg x env = some e1 ∧ elt e1 S = .ok (.v (f x)) S) → compL cond elt tg env [] xs acc S = .ok (.t (.lst (acc ++ xs.map f))) S
  | [], acc, h => by simp [compL]
  | x :: xs, acc, h => by
    obtain ⟨e1, h1, h2⟩ := h x (List.mem_cons_self ..)
    rw [compL]
    simp only [guardL_nil', h1, hc, bind_ok, h2, lay_v, if_true]
    rw [comp_map cond elt tg env S f hc xs _ (fun y hy => h y (List.mem_cons_of_mem _ hy))]
    simp
end
end Fe

/-! LadA: ladders, plainly -/
namespace Fe
open PySem
inductive Lad where
  | nil
  | cons (e : Lad) (n : Int) (r : Lad)
deriving DecidableEq
namespace Lad
def enc : Lad → List Val
  | nil => []
  | cons e n r => .tup [.tup (enc e), .int n] :: enc r
def v (L : Lad) : Val := .tup L.enc
def dep : Lad → Nat
  | nil => 0
  | cons e _ r => max (e.dep + 1) r.dep
def siz : Lad → Nat
  | nil => 0
  | cons e _ r => e.siz + r.siz + 1
def len : Lad → Nat
  | nil => 0
  | cons _ _ r => r.len + 1
def parts : Lad → Int
  | nil => 0
  | cons e _ r => 1 + e.parts + r.parts
def less : Lad → Lad → Bool
  | _, nil => false
  | nil, cons _ _ _ => true
  | cons e n r, cons e' n' r' => if e = e' then if n = n' then less r r' else decide (n < n') else less e e'
def each (f : Lad → Int → Val) : Lad → List Val
  | nil => []
  | cons e n r => f e n :: each f r
/-- exponents fall -/
def falls : Lad → Bool
  | nil => true
  | cons _ _ nil => true
  | cons e _ (cons e' n' r') => less e' e && falls (cons e' n' r')
def pairsOk : Lad → Bool
  | nil => true
  | cons e n r => pairsOk e && falls e && decide (1 ≤ n) && pairsOk r
def ok (L : Lad) : Bool := pairsOk L && falls L
/-- a small ladder -/
def Sm (L : Lad) : Prop := L.dep ≤ 30 ∧ L.siz ≤ 1000000
theorem len_enc (L : Lad) : L.enc.length = L.len := by
  induction L with
  | nil => rfl
  | cons e n r _ ih => simp [enc, len, ih]
theorem len_siz (L : Lad) : L.len ≤ L.siz := by
  induction L with
  | nil => simp [len, siz]
  | cons e n r _ ih => simp only [len, siz]; omega
theorem enc_le (L : Lad) (h : L.siz ≤ 1000000) : L.enc.length ≤ 16000000 := by
  have := L.len_siz
  rw [L.len_enc]
  omega
theorem bel (k : Nat) (L : Lad) : Val.belL k L.enc = true := by
  induction L with
  | nil => rfl
  | cons e n r he hr => simp [enc, Val.belL, Val.bel, he, hr]
theorem canLay (L : Lad) : PyData.canLayAll0 (Val.pdL L.enc) = true := by
  induction L with
  | nil => simp [enc, Val.pdL, PyData.canLayAll0]
  | cons e n r he hr => simp [enc, Val.pdL, Val.pd, PyData.canLayAll0, PyData.canLay0, he, hr]
theorem depth_enc (L : Lad) : PyData.depthAll (Val.pdL L.enc) = 2 * L.dep := by
  induction L with
  | nil => simp [enc, Val.pdL, PyData.depthAll, dep]
  | cons e n r he hr => simp [enc, Val.pdL, Val.pd, PyData.depthAll, PyData.depth, he, hr, dep]; omega
theorem shaped (L : Lad) (h : L.dep ≤ 31) : SeqAt.shaped (.tuple (Val.pdL L.enc)) = true := by
  simp [SeqAt.shaped, PyData.canLay0, canLay, PyData.depth, depth_enc]
  omega
theorem eqv_enc : ∀ (L M : Lad), PyData.eqvAll (Val.pdL L.enc) (Val.pdL M.enc) = decide (L = M)
  | nil, nil => by simp [enc, Val.pdL, PyData.eqvAll]
  | nil, cons _ _ _ => by simp [enc, Val.pdL, PyData.eqvAll]
  | cons _ _ _, nil => by simp [enc, Val.pdL, PyData.eqvAll]
  | cons e n r, cons e' n' r' => by
    simp only [enc, Val.pdL, Val.pd, PyData.eqvAll, PyData.eqv, eqv_enc e e', eqv_enc r r', Lad.cons.injEq]
    by_cases h1 : e = e' <;> by_cases h2 : n = n' <;> by_cases h3 : r = r' <;> simp [h1, h2, h3]
theorem eqR_enc (S : Sto) (L M : Lad) (h : L.dep ≤ 31) (h' : M.dep ≤ 31) : eqR S (.v (.tup L.enc)) (.v (.tup M.enc)) = some (decide (L = M)) := by
  simp only [eqR, datR, Val.bel, bel, if_true, Val.pd, shaped L h, shaped M h', and_self, PyData.eqv, eqv_enc]
theorem dep_cons_e {e : Lad} {n : Int} {r : Lad} {k : Nat} (h : (cons e n r).dep ≤ k) : e.dep + 1 ≤ k := by simp only [dep] at h; omega
theorem dep_cons_r {e : Lad} {n : Int} {r : Lad} {k : Nat} (h : (cons e n r).dep ≤ k) : r.dep ≤ k := by simp only [dep] at h; omega
end Lad

def d_is_whole : Fd := ⟨2, 2, (.cons (.ret (.some (.and (.isi (.var 0) .int) (.and (.not (.isi (.var 0) .bl)) (.cmp .ge (.var 0) (.var 1)))))) .nil)⟩
def d_number : Fd := ⟨1, 1, (.cons (.ite (.cmp .eq (.var 0) (.cst (.int 0))) (.cons (.ret (.some (.tup .nil))) .nil) .nil) (.cons (.ret (.some (.tup (.cons (.tup (.cons (.tup .nil) (.cons (.var 0) .nil))) .nil)))) .nil))⟩
def d_is_less : Fd := ⟨2, 4, (.cons (.for (.t [(.n 2), (.n 3)]) (.zip (.var 0) (.var 1)) (.cons (.ite (.cmp .ne (.ix (.var 2) (.cst (.int 0))) (.ix (.var 3) (.cst (.int 0)))) (.cons (.ret (.some (.call "is_less" (.cons (.ix (.var 2) (.cst (.int 0))) (.cons (.ix (.var 3) (.cst (.int 0))) .nil))))) .nil) .nil) (.cons (.ite (.cmp .ne (.ix (.var 2) (.cst (.int 1))) (.ix (.var 3) (.cst (.int 1)))) (.cons (.ret (.some (.cmp .lt (.ix (.var 2) (.cst (.int 1))) (.ix (.var 3) (.cst (.int 1)))))) .nil) .nil) .nil))) (.cons (.ret (.some (.cmp .lt (.blt .len (.cons (.var 0) .nil)) (.blt .len (.cons (.var 1) .nil))))) .nil))⟩
def d_is_pair : Fd := ⟨1, 1, (.cons (.ret (.some (.and (.isi (.var 0) .tup) (.and (.cmp .eq (.blt .len (.cons (.var 0) .nil)) (.cst (.int 2))) (.and (.call "is_ladder" (.cons (.ix (.var 0) (.cst (.int 0))) .nil)) (.call "is_whole" (.cons (.ix (.var 0) (.cst (.int 1))) (.cons (.cst (.int 1)) .nil)))))))) .nil)⟩
def d_is_ladder : Fd := ⟨1, 3, (.cons (.ite (.or (.not (.isi (.var 0) .tup)) (.not (.blt .all (.cons (.comp [2] (.n 2) (.e (.var 0)) .none (.call "is_pair" (.cons (.var 2) .nil))) .nil)))) (.cons (.ret (.some (.cst (.bl false)))) .nil) .nil) (.cons (.ret (.some (.blt .all (.cons (.comp [1] (.n 1) (.rg2 (.cst (.int 1)) (.blt .len (.cons (.var 0) .nil))) .none (.call "is_less" (.cons (.ix (.ix (.var 0) (.var 1)) (.cst (.int 0))) (.cons (.ix (.ix (.var 0) (.bin .sub (.var 1) (.cst (.int 1)))) (.cst (.int 0))) .nil)))) .nil)))) .nil))⟩
def d_parts : Fd := ⟨1, 3, (.cons (.ret (.some (.blt .sum (.cons (.comp [1, 2] (.t [(.n 1), (.n 2)]) (.e (.var 0)) .none (.bin .add (.cst (.int 1)) (.call "parts" (.cons (.var 1) .nil)))) .nil)))) .nil)⟩
def d_deep : Fd := ⟨1, 3, (.cons (.ret (.some (.blt .max (.cons (.bin .add (.lst (.cons (.cst (.int 0)) .nil)) (.comp [1, 2] (.t [(.n 1), (.n 2)]) (.e (.var 0)) .none (.bin .add (.cst (.int 1)) (.call "deep" (.cons (.var 1) .nil))))) .nil)))) .nil)⟩
def d__law_at : Fd := ⟨2, 2, (.cons (.ite (.cmp .lt (.var 1) (.blt .len (.cons (.var 0) .nil))) (.cons (.ret (.some (.ix (.var 0) (.var 1)))) .nil) .nil) (.cons (.ret (.some (.cst (.int 0)))) .nil))⟩
def d__law_purse : Fd := ⟨2, 3, (.cons (.set 2 (.cst (.int 0))) (.cons (.ite (.or (.cmp .lt (.var 0) (.cst (.int 0))) (.cmp .ge (.var 0) (.bin .pow (.cst (.int 10)) (.cst (.int 18))))) (.cons (.set 2 (.blt .abs (.cons (.var 0) .nil))) .nil) .nil) (.cons (.ret (.some (.lst (.cons (.var 2) (.cons (.bin .mod (.bin .add (.bin .add (.bin .mod (.var 0) (.cst (.int 2147483629))) (.bin .mul (.bin .mul (.cst (.int 104729)) (.var 1)) (.var 1))) (.cst (.int 77))) (.cst (.int 2147483629))) .nil))))) .nil)))⟩
def d__law_draw : Fd := ⟨2, 4, (.cons (.ite (.cmp .gt (.ix (.var 0) (.cst (.int 0))) (.cst (.int 0))) (.cons (.set 3 (.bin .mod (.ix (.var 0) (.cst (.int 0))) (.var 1))) (.cons (.setIx (.var 0) (.cst (.int 0)) (.bin .fdiv (.ix (.var 0) (.cst (.int 0))) (.var 1))) (.cons (.ret (.some (.var 3))) .nil))) .nil) (.cons (.setIx (.var 0) (.cst (.int 1)) (.bin .mod (.bin .add (.bin .mul (.ix (.var 0) (.cst (.int 1))) (.cst (.int 48271))) (.cst (.int 2531011))) (.cst (.int 2147483629)))) (.cons (.set 2 (.bin .mod (.bin .mul (.ix (.var 0) (.cst (.int 1))) (.ix (.var 0) (.cst (.int 1)))) (.cst (.int 2147483587)))) (.cons (.ret (.some (.bin .mod (.bin .fdiv (.bin .mod (.bin .add (.bin .mul (.var 2) (.cst (.int 69621))) (.ix (.var 0) (.cst (.int 1)))) (.cst (.int 2147483587))) (.cst (.int 128))) (.var 1)))) .nil))))⟩
def d__law_many : Fd := ⟨1, 4, (.cons (.set 1 (.call "_law_draw" (.cons (.var 0) (.cons (.cst (.int 4)) .nil)))) (.cons (.ite (.cmp .eq (.var 1) (.cst (.int 0))) (.cons (.ret (.some (.cst (.int 1)))) .nil) .nil) (.cons (.ite (.cmp .lt (.var 1) (.cst (.int 3))) (.cons (.ret (.some (.bin .add (.cst (.int 1)) (.call "_law_draw" (.cons (.var 0) (.cons (.ix (.lst (.cons (.cst (.int 6)) (.cons (.bin .pow (.cst (.int 10)) (.cst (.int 6))) .nil))) (.bin .sub (.var 1) (.cst (.int 1)))) .nil)))))) .nil) .nil) (.cons (.set 2 (.cst (.int 0))) (.cons (.for (.n 3) (.rg1 (.cst (.int 10))) (.cons (.set 2 (.bin .add (.bin .mul (.var 2) (.bin .pow (.cst (.int 10)) (.cst (.int 6)))) (.call "_law_draw" (.cons (.var 0) (.cons (.bin .pow (.cst (.int 10)) (.cst (.int 6))) .nil))))) .nil)) (.cons (.ret (.some (.blt .max (.cons (.cst (.int 1)) (.cons (.var 2) .nil))))) .nil))))))⟩
def d__law_alike : Fd := ⟨2, 4, (.cons (.ite (.isi (.var 1) .tup) (.cons (.ret (.some (.and (.isi (.var 0) .tup) (.and (.cmp .eq (.blt .len (.cons (.var 0) .nil)) (.blt .len (.cons (.var 1) .nil))) (.blt .all (.cons (.comp [2, 3] (.t [(.n 2), (.n 3)]) (.zip (.var 0) (.var 1)) .none (.call "_law_alike" (.cons (.var 2) (.cons (.var 3) .nil)))) .nil)))))) .nil) .nil) (.cons (.ret (.some (.and (.isi (.var 0) .int) (.and (.not (.isi (.var 0) .bl)) (.cmp .eq (.var 0) (.var 1)))))) .nil))⟩
def d__law_truth : Fd := ⟨2, 2, (.cons (.ret (.some (.and (.isi (.var 0) .bl) (.cmp .eq (.var 0) (.var 1))))) .nil)⟩
section
variable {P : Str → Option Fd} (k : Nat) (S : Sto)
theorem whole_run (h : P "is_whole" = some d_is_whole) (n m : Int) : run P (k + 1) "is_whole" [.int n, .int m] S = .ok (.v (.bl (decide (m ≤ n)))) S := by
  rw [run_ok h _ _ _ rfl]
  simp [d_is_whole, startE]
theorem number_run (h : P "number" = some d_number) (n : Int) : run P (k + 1) "number" [.int n] S = .ok (.v (Lad.v (if n = 0 then .nil else .cons .nil n .nil))) S := by
  rw [run_ok h _ _ _ rfl]
  by_cases hn : n = 0 <;> simp [d_number, startE, hn, Lad.v, Lad.enc]
theorem truth_run (h : P "_law_truth" = some d__law_truth) (n m : Bool) : run P (k + 1) "_law_truth" [.bl n, .bl m] S = .ok (.v (.bl (n == m))) S := by
  rw [run_ok h _ _ _ rfl]
  simp [d__law_truth, startE]
theorem zipV_enc (L M : Lad) : ∀ x ∈ zipV L.enc M.enc, True := fun _ _ => trivial
theorem less_loop (T : Fns) (hT : ∀ e e' : Lad, e.dep + 1 ≤ k → e.dep ≤ 31 → e'.dep ≤ 31 → T "is_less" [e.v, e'.v] S = .ok (.v (.bl (Lad.less e e'))) S) (q : Cs) (hq : q = (.cons (.ite (.cmp .ne (.ix (.var 2) (.cst (.int 0))) (.ix (.var 3) (.cst (.int 0)))) (.cons (.ret (.some (.call "is_less" (.cons (.ix (.var 2) (.cst (.int 0))) (.cons (.ix (.var 3) (.cst (.int 0))) .nil))))) .nil) .nil) (.cons (.ite (.cmp .ne (.ix (.var 2) (.cst (.int 1))) (.ix (.var 3) (.cst (.int 1)))) (.cons (.ret (.some (.cmp .lt (.ix (.var 2) (.cst (.int 1))) (.ix (.var 3) (.cst (.int 1)))))) .nil) .nil) .nil))) (x y : Option Val) :
    ∀ (L M : Lad) (u w : Option Val), L.dep ≤ k → L.dep ≤ 31 → M.dep ≤ 31 →
      (∃ u' w', forL (evB T q) (.t [.n 2, .n 3]) [] (zipV L.enc M.enc) [x, y, u, w] S = .ok (.rt (.v (.bl (Lad.less L M)))) [x, y, u', w'] S) ∨
      (Lad.less L M = decide (L.len < M.len) ∧ ∃ u' w', forL (evB T q) (.t [.n 2, .n 3]) [] (zipV L.enc M.enc) [x, y, u, w] S = .ok .nx [x, y, u', w'] S)
  | .nil, .nil, u, w, _, _, _ => .inr ⟨by simp [Lad.less, Lad.len], u, w, by simp [Lad.enc, zipV, forL]⟩
  | .nil, .cons _ _ _, u, w, _, _, _ => .inr ⟨by simp [Lad.less, Lad.len], u, w, by simp [Lad.enc, zipV, forL]⟩
  | .cons _ _ _, .nil, u, w, _, _, _ => .inr ⟨by simp [Lad.less, Lad.len], u, w, by simp [Lad.enc, zipV, forL]⟩
  | .cons e n r, .cons e' n' r', u, w, hd, hk, hd' => by
    have h1 := Lad.dep_cons_e hd
    have h1' := Lad.dep_cons_e hd'
    have h1'' := Lad.dep_cons_e hk
    have E := Lad.eqR_enc S e e' (by omega) (by omega)
    have B : evB T q [x, y, some (.tup [.tup e.enc, .int n]), some (.tup [.tup e'.enc, .int n'])] S = if e = e' then if n = n' then .ok .nx [x, y, some (.tup [.tup e.enc, .int n]), some (.tup [.tup e'.enc, .int n'])] S else .ok (.rt (.v (.bl (decide (n < n'))))) [x, y, some (.tup [.tup e.enc, .int n]), some (.tup [.tup e'.enc, .int n'])] S else .ok (.rt (.v (.bl (Lad.less e e')))) [x, y, some (.tup [.tup e.enc, .int n]), some (.tup [.tup e'.enc, .int n'])] S := by
      have hc := hT e e' h1 (by omega) (by omega)
      simp only [Lad.v] at hc
      subst hq
      by_cases he : e = e'
      · subst he
        by_cases hn : n = n'
        · simp [E, hn]
        · simp [E, hn]
      · simp [E, he, hc]
    simp only [Lad.enc, zipV, forL, guardS_nil', asgT_t, asgTs_cons, asgT_n, asgTs_nil, Option.bind_some, List.set_cons_succ, List.set_cons_zero, B]
    by_cases he : e = e'
    · by_cases hn : n = n'
      · simp only [if_pos he, if_pos hn, Lad.less, Lad.len]
        simp only [Nat.add_lt_add_iff_right]
        exact less_loop T hT q hq x y r r' (some (.tup [.tup e.enc, .int n])) (some (.tup [.tup e'.enc, .int n'])) (Lad.dep_cons_r hd) (Lad.dep_cons_r hk) (Lad.dep_cons_r hd')
      · simp only [if_pos he, if_neg hn, Lad.less]
        exact .inl ⟨_, _, rfl⟩
    · simp only [if_neg he, Lad.less]
      exact .inl ⟨_, _, rfl⟩
theorem less_run (h : P "is_less" = some d_is_less) : ∀ (k : Nat) (L M : Lad), L.dep < k → L.dep ≤ 31 → M.dep ≤ 31 → run P k "is_less" [L.v, M.v] S = .ok (.v (.bl (Lad.less L M))) S
  | k + 1, L, M, hd, hk, hd' => by
    rw [run_ok h _ _ _ rfl]
    have hT : ∀ e e' : Lad, e.dep + 1 ≤ k → e.dep ≤ 31 → e'.dep ≤ 31 → run P k "is_less" [e.v, e'.v] S = .ok (.v (.bl (Lad.less e e'))) S := by
      intro e e' he h31 he'
      exact less_run h k e e' (by omega) h31 he'
    have W := less_loop k S (run P k) hT _ rfl (some L.v) (some M.v) L M none none (by omega) hk hd'
    simp only [d_is_less, startE, List.map, List.length, List.replicate, List.cons_append, List.nil_append, evB_cons, evS_for, evI_zip, evE_var, List.getElem?_cons_zero, List.getElem?_cons_succ, bind_ok, st_ok, Lad.v, isTup_tup, Bool.and_self, Bool.true_or, if_true, src_tup, of_some, List.append_nil]
    simp only [Lad.v] at W
    rcases W with ⟨u, w, W⟩ | ⟨hl, u, w, W⟩
    · rw [W]
      simp
    · rw [W]
      simp [hl, Lad.len_enc]
/-- a relation, item by item -/
inductive Al {α β : Type} (R : α → β → Prop) : List α → List β → Prop
  | nil : Al R [] []
  | cons {x : α} {y : β} {xs : List α} {ys : List β} : R x y → Al R xs ys → Al R (x :: xs) (y :: ys)
theorem Al.map {α β γ : Type} {R : β → γ → Prop} (f : α → β) (g : α → γ) : ∀ (l : List α), (∀ i ∈ l, R (f i) (g i)) → Al R (l.map f) (l.map g)
  | [], _ => .nil
  | x :: l, h => .cons (h x (List.mem_cons_self ..)) (Al.map f g l fun i hi => h i (List.mem_cons_of_mem _ hi))
theorem comp_al (cond : Env → Sto → Res Bool) (elt : Env → Sto → Res Rv) (tg : Tg) (env : Env) (S : Sto) (hc : ∀ e, cond e S = .ok true S) {xs ys : List Val} (h : Al (fun x y => ∃ e1, asgT tg x env = some e1 ∧ elt e1 S = .ok (.v y) S) xs ys) :
    ∀ acc : List Val, compL cond elt tg env [] xs acc S = .ok (.t (.lst (acc ++ ys))) S := by
  induction h with
  | nil => intro acc; simp [compL]
  | cons hx _ ih =>
    intro acc
    obtain ⟨e1, h1, h2⟩ := hx
    rw [compL]
    simp only [guardL_nil', h1, hc, bind_ok, h2, lay_v, if_true]
    rw [ih]
    simp
theorem comp_run (T : Fns) (own : List Nat) (tg : Tg) (it : It) (a : E) (env : Env) (S : Sto) {xs ys : List Val} (hi : evI T it env S = .ok ⟨xs, []⟩ S) (hl : xs.length ≤ 16000000) (h : Al (fun x y => ∃ e1, asgT tg x (wipeE env own) = some e1 ∧ evE T a e1 S = .ok (.v y) S) xs ys) : evE T (.comp own tg it .none a) env S = .ok (.t (.lst ys)) S := by
  have C := comp_al (evC T .none) _ _ _ S (fun _ => rfl) h []
  have hl' : xs.length ≤ sizeLine := Nat.le_trans hl (by decide)
  rw [evE_comp, hi]
  simp only [bind_ok, if_pos hl', C, nox_ok, List.nil_append]
theorem al_lad {R : Val → Val → Prop} (f : Lad → Int → Val) : ∀ L : Lad, (∀ e n, e.dep + 1 ≤ L.dep → e.siz + 1 ≤ L.siz → R (.tup [.tup e.enc, .int n]) (f e n)) → Al R L.enc (L.each f)
  | .nil, _ => .nil
  | .cons e n r, h => .cons (h e n (by simp only [Lad.dep]; omega) (by simp only [Lad.siz]; omega)) (al_lad f r fun e' n' h1 h2 => h e' n' (by simp only [Lad.dep]; omega) (by simp only [Lad.siz]; omega))
theorem parts_ints : ∀ L : Lad, ∃ is : List Int, intsOf (L.each fun e _ => .int (1 + e.parts)) = some is ∧ is.sum = L.parts
  | .nil => ⟨[], rfl, rfl⟩
  | .cons e n r => by
    obtain ⟨is, h1, h2⟩ := parts_ints r
    exact ⟨(1 + e.parts) :: is, by simp [Lad.each, intsOf, h1], by simp [Lad.parts, h2]⟩
theorem parts_run (h : P "parts" = some d_parts) : ∀ (k : Nat) (L : Lad), L.dep < k → L.siz ≤ 1000000 → run P k "parts" [L.v] S = .ok (.v (.int L.parts)) S
  | k + 1, L, hd, hs => by
    rw [run_ok h _ _ _ rfl]
    have A : Al (fun x y => ∃ e1, asgT (.t [.n 1, .n 2]) x [some L.v, none, none] = some e1 ∧ evE (run P k) (.bin .add (.cst (.int 1)) (.call "parts" (.cons (.var 1) .nil))) e1 S = .ok (.v y) S) L.enc (L.each fun e _ => .int (1 + e.parts)) := by
      refine al_lad _ L fun e n h1 h2 => ⟨_, rfl, ?_⟩
      have ih := parts_run h k e (by omega) (by omega)
      simp only [Lad.v] at ih
      simp [ih]
    have C := comp_run (run P k) [1, 2] _ (.e (.var 0)) _ [some L.v, none, none] S rfl (L.enc_le hs) A
    obtain ⟨is, h1, h2⟩ := parts_ints L
    simp [d_parts, startE, C, blt1, lstOf, lstW, h1, h2]
theorem deep_ints : ∀ L : Lad, ∃ is : List Int, intsOf (L.each fun e _ => .int (1 + (e.dep : Int))) = some is ∧ ∀ m : Int, 0 ≤ m → maxI m is = max m L.dep
  | .nil => ⟨[], rfl, by
    intro m hm
    simp only [maxI, Lad.dep]
    omega⟩
  | .cons e n r => by
    obtain ⟨is, h1, h2⟩ := deep_ints r
    refine ⟨(1 + (e.dep : Int)) :: is, by simp [Lad.each, intsOf, h1], ?_⟩
    intro m hm
    simp only [maxI, Lad.dep]
    rw [h2 _ (by split <;> omega)]
    split <;> omega
theorem each_len (f : Lad → Int → Val) : ∀ L : Lad, (L.each f).length = L.len
  | .nil => rfl
  | .cons e n r => by simp [Lad.each, Lad.len, each_len f r]
theorem deep_run (h : P "deep" = some d_deep) : ∀ (k : Nat) (L : Lad), L.dep < k → L.siz ≤ 1000000 → run P k "deep" [L.v] S = .ok (.v (.int L.dep)) S
  | k + 1, L, hd, hs => by
    rw [run_ok h _ _ _ rfl]
    have A : Al (fun x y => ∃ e1, asgT (.t [.n 1, .n 2]) x [some L.v, none, none] = some e1 ∧ evE (run P k) (.bin .add (.cst (.int 1)) (.call "deep" (.cons (.var 1) .nil))) e1 S = .ok (.v y) S) L.enc (L.each fun e _ => .int (1 + (e.dep : Int))) := by
      refine al_lad _ L fun e n h1 h2 => ⟨_, rfl, ?_⟩
      have ih := deep_run h k e (by omega) (by omega)
      simp only [Lad.v] at ih
      simp [ih]
    have C := comp_run (run P k) [1, 2] _ (.e (.var 0)) _ [some L.v, none, none] S rfl (L.enc_le hs) A
    obtain ⟨is, h1, h2⟩ := deep_ints L
    have h3 := h2 0 (by omega)
    have h4 : max (0 : Int) (L.dep : Int) = L.dep := by omega
    have hl2 : 1 + (L.each fun e _ => .int (1 + (e.dep : Int))).length ≤ sizeLine := by
      have := L.len_siz
      have h5 : (L.each fun e _ => .int (1 + (e.dep : Int))).length = L.len := by
        exact each_len _ L
      rw [h5]
      show _ ≤ 16777216
      omega
    simp [d_deep, startE, C, blt1, lstOf, lstW, binR, addR, maxL, h1, h3, h4, hl2]
/-! ### is_ladder -/
theorem bls_map {α : Type} (g : α → Bool) : ∀ l : List α, blsOf (l.map fun i => .bl (g i)) = some (l.map g)
  | [] => rfl
  | x :: l => by simp [blsOf, bls_map g l]
def Lad.exps : Lad → List Lad
  | .nil => []
  | .cons e _ r => e :: exps r
def Lad.nums : Lad → List Int
  | .nil => []
  | .cons _ n r => n :: nums r
theorem pair_bls : ∀ L : Lad, ∃ bs : List Bool, blsOf (L.each fun e n => .bl (e.ok && decide (1 ≤ n))) = some bs ∧ bs.all id = L.pairsOk
  | .nil => ⟨[], rfl, rfl⟩
  | .cons e n r => by
    obtain ⟨is, h1, h2⟩ := pair_bls r
    refine ⟨(e.ok && decide (1 ≤ n)) :: is, by simp [Lad.each, blsOf, h1], ?_⟩
    simp [Lad.pairsOk, h2, Lad.ok]
theorem enc_at : ∀ (L : Lad) (i : Nat) (h : i < L.len), ∃ e n, L.exps[i]? = some e ∧ L.enc[i]? = some (.tup [e.v, .int n]) ∧ e.dep + 1 ≤ L.dep
  | .cons e n r, 0, _ => ⟨e, n, rfl, rfl, by simp only [Lad.dep]; omega⟩
  | .cons e n r, i + 1, h => by
    obtain ⟨e', n', h1, h2, h3⟩ := enc_at r i (by simp only [Lad.len] at h; omega)
    exact ⟨e', n', by simpa [Lad.exps] using h1, by simpa [Lad.enc] using h2, by simp only [Lad.dep]; omega⟩
theorem falls_all : ∀ L : Lad, (List.range (L.len - 1)).all (fun i => Lad.less (L.exps.getD (i + 1) .nil) (L.exps.getD i .nil)) = L.falls
  | .nil => rfl
  | .cons _ _ .nil => rfl
  | .cons e n (.cons e' n' r') => by
    have ih := falls_all (.cons e' n' r')
    simp only [Lad.len, Nat.add_sub_cancel] at ih ⊢
    rw [Lad.falls, ← ih, List.range_succ_eq_map]
    simp [Lad.exps, Function.comp_def]
theorem range1 (n : Nat) (h : n ≤ 1000000) : rangeR [.v (.int 1), .v (.int (n : Int))] = some ⟨rngL 1 (n - 1), []⟩ := by
  have h5 : rngOk (n : Int) = true := by
    simp only [rngOk, Bool.and_eq_true, decide_eq_true_eq]
    omega
  have h7 : rngOk 1 = true := by decide
  have h6 : ((n : Int) - 1).toNat = n - 1 := by omega
  simp only [rangeR, h5, h7, h6, and_self, if_true]
theorem rng_len (i : Int) (n : Nat) : (rngL i n).length = n := by simp [rngL]
theorem le_line {n : Nat} (h : n ≤ 16000000) : n ≤ sizeLine := Nat.le_trans h (by decide)
theorem pair_run (h2 : P "is_pair" = some d_is_pair) (h3 : P "is_whole" = some d_is_whole) (e : Lad) (n : Int) (k : Nat) (ih : run P (k + 1) "is_ladder" [e.v] S = .ok (.v (.bl e.ok)) S) : run P (k + 1 + 1) "is_pair" [.tup [.tup e.enc, .int n]] S = .ok (.v (.bl (e.ok && decide (1 ≤ n)))) S := by
  have w := whole_run (P := P) k S h3 n 1
  simp only [Lad.v] at ih
  rw [run_ok h2 _ _ _ rfl]
  cases ho : e.ok <;> simp [d_is_pair, startE, ih, ho, w]
end
end Fe

/-! LadB: is_ladder -/
namespace Fe
open PySem
section
variable {P : Str → Option Fd} (k : Nat) (S : Sto)
theorem ladder_B (h4 : P "is_less" = some d_is_less) (k : Nat) (L : Lad) (hk : L.dep ≤ k) (hdd : L.dep ≤ 31) : Al (fun x y => ∃ e1, asgT (.n 1) x [some L.v, none, none] = some e1 ∧ evE (run P k) (.call "is_less" (.cons (.ix (.ix (.var 0) (.var 1)) (.cst (.int 0))) (.cons (.ix (.ix (.var 0) (.bin .sub (.var 1) (.cst (.int 1)))) (.cst (.int 0))) .nil))) e1 S = .ok (.v y) S) (rngL 1 (L.len - 1)) ((List.range (L.len - 1)).map fun i => .bl (Lad.less (L.exps.getD (i + 1) .nil) (L.exps.getD i .nil))) := by
      refine Al.map _ _ _ fun i hi => ⟨_, rfl, ?_⟩
      have hi' := List.mem_range.mp hi
      obtain ⟨e, n, a1, a2, a3⟩ := enc_at L i (by omega)
      obtain ⟨e', n', b1, b2, b3⟩ := enc_at L (i + 1) (by omega)
      have c1 : L2.atI L.enc (i : Int) = some (.tup [e.v, .int n]) := L2.atI_nat a2
      have c2 : L2.atI L.enc ((i : Int) + 1) = some (.tup [e'.v, .int n']) := L2.atI_nat b2
      have lr := less_run (P := P) S h4 k e' e (by omega) (by omega) (by omega)
      have g1 : (1 : Int) + (i : Int) = (i : Int) + 1 := by omega
      simp only [Lad.v] at c1 c2 lr
      simp [Lad.v, g1, c1, c2, lr, a1, b1, List.getD]
theorem ladder_hr (k : Nat) (L : Lad) (hs : L.siz ≤ 1000000) : evI (run P k) (.rg2 (.cst (.int 1)) (.blt .len (.cons (.var 0) .nil))) [some L.v, none, none] S = .ok ⟨rngL 1 (L.len - 1), []⟩ S := by
  have hsz := L.len_siz
  simp only [evI_rg2, evE_cst, evE_blt, evR_cons, evR_nil, evE_var, List.getElem?_cons_zero, bind_ok, Lad.v, blt_one, len_tup, Lad.len_enc, of_some]
  rw [range1 L.len (by omega)]
  rfl
theorem ladder_step (h1 : P "is_ladder" = some d_is_ladder) (h4 : P "is_less" = some d_is_less) (k : Nat) (L : Lad) (hk : L.dep ≤ k) (hdd : L.dep ≤ 31) (hs : L.siz ≤ 1000000) (hp : ∀ (e : Lad) (n : Int), e.dep + 1 ≤ L.dep → e.siz + 1 ≤ L.siz → run P k "is_pair" [.tup [.tup e.enc, .int n]] S = .ok (.v (.bl (e.ok && decide (1 ≤ n)))) S) : run P (k + 1) "is_ladder" [L.v] S = .ok (.v (.bl L.ok)) S := by
    rw [run_ok h1 _ _ _ rfl]
    have A : Al (fun x y => ∃ e1, asgT (.n 2) x [some L.v, none, none] = some e1 ∧ evE (run P k) (.call "is_pair" (.cons (.var 2) .nil)) e1 S = .ok (.v y) S) L.enc (L.each fun e n => .bl (e.ok && decide (1 ≤ n))) := by
      refine al_lad _ L fun e n h1' h2' => ⟨_, rfl, ?_⟩
      simp [hp e n h1' h2']
    have C := comp_run (run P k) [2] _ (.e (.var 0)) _ [some L.v, none, none] S rfl (L.enc_le hs) A
    have B := ladder_B S h4 k L hk hdd
    have hsz := L.len_siz
    have hr := ladder_hr (P := P) S k L hs
    have D := comp_run (run P k) [1] _ _ _ _ S hr (by rw [rng_len]; omega) B
    obtain ⟨bs, p1, p2⟩ := pair_bls L
    have ok : L.ok = (L.pairsOk && L.falls) := rfl
    have F := falls_all L
    rw [ok]
    have I : isiR S (.v L.v) .tup = some true := rfl
    cases ho : L.pairsOk
    · simp [d_is_ladder, startE, C, blt1, lstOf, lstW, p1, p2, ho, I]
    · simp [d_is_ladder, startE, C, D, blt1, lstOf, lstW, p1, p2, ho, I, bls_map, List.all_map, Function.comp_def]
      simpa using F
theorem ladder_run (h1 : P "is_ladder" = some d_is_ladder) (h2 : P "is_pair" = some d_is_pair) (h3 : P "is_whole" = some d_is_whole) (h4 : P "is_less" = some d_is_less) : ∀ (d k : Nat) (L : Lad), L.dep ≤ d → 2 * d + 1 ≤ k → L.dep ≤ 31 → L.siz ≤ 1000000 → run P k "is_ladder" [L.v] S = .ok (.v (.bl L.ok)) S := by
  intro d
  induction d with
  | zero =>
    intro k L hd hk hdd hs
    match k, hk with
    | k + 1, hk =>
      exact ladder_step S h1 h4 k L (by omega) hdd hs (fun e n h1' h2' => by omega)
  | succ d ih =>
    intro k L hd hk hdd hs
    match k, hk with
    | k + 1 + 1 + 1, hk =>
      exact ladder_step S h1 h4 (k + 1 + 1) L (by omega) hdd hs (fun e n h1' h2' => pair_run S h2 h3 e n k (ih (k + 1) e (by omega) (by omega) (by omega) (by omega)))
end
end Fe

/-! Pur: the laws' purses -/
namespace Fe
open PySem
def pu (a b : Int) : Ob := .lst [.int a, .int b]
def PU (a b : Int) : Prop := 0 ≤ a ∧ 0 ≤ b ∧ b < 2147483629
theorem cut_t (o : Ob) (S : Sto) (n : Nat) (h : S.length = n) : cut n (.t o) S = .ok (.t o) S := by
  subst h
  unfold cut
  rw [List.take_length]
  split
  · dsimp only; split <;> rfl
  · rfl
@[simp] theorem cut_t' (o : Ob) (S : Sto) : cut S.length (.t o) S = .ok (.t o) S := cut_t o S _ rfl
theorem mulOk_l (x y : Int) (h : -(2 ^ 60) < x) (h' : x < 2 ^ 60) : mulOk x y = true := by
  have h1 : -(2 ^ 64) < x := by omega
  have h2 : x < 2 ^ 64 := by omega
  simp only [mulOk, decide_eq_true h1, decide_eq_true h2, Bool.and_self, Bool.true_or]
theorem mulOk_r (x y : Int) (h : -(2 ^ 60) < y) (h' : y < 2 ^ 60) : mulOk x y = true := by
  have h1 : -(2 ^ 64) < y := by omega
  have h2 : y < 2 ^ 64 := by omega
  simp only [mulOk, decide_eq_true h1, decide_eq_true h2, Bool.and_self, Bool.true_or, Bool.or_true]
theorem ix_ref {S : Sto} {l : Nat} {xs : List Val} (h : S[l]? = some (.lst xs)) (i : Int) : ixR S (.v (.ref l)) i = L2.atI xs i := by simp [ixR, dicW, seqOf, lstOf, lstW, h]
theorem set0 {S : Sto} {l : Nat} {x y z : Val} (h : S[l]? = some (.lst [x, y])) : setIxR l 0 z S = some (S.set l (.lst [z, y])) := by
  simp only [setIxR, h]
  rfl
theorem set1 {S : Sto} {l : Nat} {x y z : Val} (h : S[l]? = some (.lst [x, y])) : setIxR l 1 z S = some (S.set l (.lst [x, z])) := by
  simp only [setIxR, h]
  rfl
theorem got_lt {α : Type} {S : List α} {l : Nat} {x : α} (h : S[l]? = some x) : l < S.length := by
  rcases Nat.lt_or_ge l S.length with q | q
  · exact q
  · rw [List.getElem?_eq_none q] at h
    cases h
theorem set_got {α : Type} {S : List α} {l : Nat} {x : α} (h : S[l]? = some x) (y : α) : (S.set l y)[l]? = some y := by
  rw [List.getElem?_set_self (got_lt h)]
theorem set_eq {α : Type} {S : List α} {l : Nat} {x : α} (h : S[l]? = some x) : S.set l x = S := by
  apply List.ext_getElem?
  intro i
  by_cases e : l = i
  · subst e
    rw [set_got h, h]
  · rw [List.getElem?_set_ne e]
theorem pow18 (S : Sto) : binR S .pow (.v (.int 10)) (.v (.int 18)) = some (.v (.int 1000000000000000000)) := by
  have h : powOk 10 18 = true := by decide
  simp only [binR, h, if_true]
  rfl
theorem pow6 (S : Sto) : binR S .pow (.v (.int 10)) (.v (.int 6)) = some (.v (.int 1000000)) := by
  have h : powOk 10 6 = true := by decide
  simp only [binR, h, if_true]
  rfl
section
variable {P : Str → Option Fd} (k : Nat) (S : Sto)
theorem purse_run (h : P "_law_purse" = some d__law_purse) (c s : Int) (hs : 0 ≤ s) (hs' : s ≤ 1000000) : ∃ a b, PU a b ∧ run P (k + 1) "_law_purse" [.int c, .int s] S = .ok (.t (pu a b)) S := by
  have m1 := bin_mul S 104729 s (mulOk_l _ _ (by decide) (by decide))
  have m2 := bin_mul S (104729 * s) s (mulOk_r _ _ (by omega) (by omega))
  have m3 := bin_mod S c 2147483629 (by decide)
  have m4 := bin_mod S (c % 2147483629 + 104729 * s * s + 77) 2147483629 (by decide)
  have p := pow18 S
  have e : run P (k + 1) "_law_purse" [.int c, .int s] S = .ok (.t (pu (if c < 0 ∨ 1000000000000000000 ≤ c then (if c < 0 then -c else c) else 0) ((c % 2147483629 + 104729 * s * s + 77) % 2147483629))) S := by
    rw [run_ok h _ _ _ rfl]
    by_cases c1 : c < 0
    · simp [d__law_purse, startE, m1, m2, m3, m4, p, pu, c1]
    · by_cases c2 : 1000000000000000000 ≤ c
      · simp [d__law_purse, startE, m1, m2, m3, m4, p, pu, c1, c2]
      · simp [d__law_purse, startE, m1, m2, m3, m4, p, pu, c1, c2]
  refine ⟨_, _, ⟨?_, Int.emod_nonneg _ (by decide), Int.emod_lt_of_pos _ (by decide)⟩, e⟩
  split
  · split <;> omega
  · omega
theorem draw_run (h : P "_law_draw" = some d__law_draw) {l : Nat} {a b : Int} (hS : S[l]? = some (pu a b)) (hp : PU a b) (m : Int) (hm : 0 < m) (hm' : m < 1073741824) : ∃ v a' b', (0 ≤ v ∧ v < m) ∧ PU a' b' ∧ run P (k + 1) "_law_draw" [.ref l, .int m] S = .ok (.v (.int v)) (S.set l (pu a' b')) := by
  unfold pu at hS
  by_cases ha : 0 < a
  · have m1 := bin_mod S a m hm
    have m2 := bin_fdiv S a m hm hm'
    refine ⟨a % m, a / m, b, ⟨Int.emod_nonneg _ (by omega), Int.emod_lt_of_pos _ hm⟩, ⟨Int.ediv_nonneg (by omega) (by omega), hp.2⟩, ?_⟩
    rw [run_ok h _ _ _ rfl]
    simp [d__law_draw, startE, ix_ref hS, ha, m1, m2, set0 hS, pu]
  · let b' := (b * 48271 + 2531011) % 2147483629
    have hb1 : 0 ≤ b' := Int.emod_nonneg _ (by decide)
    have hb2 : b' < 2147483629 := Int.emod_lt_of_pos _ (by decide)
    let x := b' * b' % 2147483587
    have hx1 : 0 ≤ x := Int.emod_nonneg _ (by decide)
    have hx2 : x < 2147483587 := Int.emod_lt_of_pos _ (by decide)
    have hS2 : (S.set l (pu a b'))[l]? = some (.lst [.int a, .int b']) := set_got hS _
    have h1 := hp.2.1
    have h2 := hp.2.2
    have m1 := bin_mul S b 48271 (mulOk_l _ _ (by omega) (by omega))
    have m2 : binR S .mod (.v (.int (b * 48271 + 2531011))) (.v (.int 2147483629)) = some (.v (.int b')) := bin_mod S _ 2147483629 (by decide)
    have s1 : setIxR l 1 (.int b') S = some (S.set l (pu a b')) := set1 hS
    have m3 := bin_mul (S.set l (pu a b')) b' b' (mulOk_l _ _ (by omega) (by omega))
    have m4 : binR (S.set l (pu a b')) .mod (.v (.int (b' * b'))) (.v (.int 2147483587)) = some (.v (.int x)) := bin_mod _ _ 2147483587 (by decide)
    have m5 := bin_mul (S.set l (pu a b')) x 69621 (mulOk_l _ _ (by omega) (by omega))
    have m6 := bin_mod (S.set l (pu a b')) (x * 69621 + b') 2147483587 (by decide)
    have m7 := bin_fdiv (S.set l (pu a b')) ((x * 69621 + b') % 2147483587) 128 (by decide) (by decide)
    have m8 := bin_mod (S.set l (pu a b')) ((x * 69621 + b') % 2147483587 / 128) m hm
    refine ⟨(x * 69621 + b') % 2147483587 / 128 % m, a, b', ⟨Int.emod_nonneg _ (by omega), Int.emod_lt_of_pos _ hm⟩, ⟨hp.1, hb1, hb2⟩, ?_⟩
    rw [run_ok h _ _ _ rfl]
    simp [d__law_draw, startE, ix_ref hS, ix_ref hS2, ha, m1, m2, s1, m3, m4, m5, m6, m7, m8]
theorem at_run (h : P "_law_at" = some d__law_at) (ns : List Int) (i : Nat) : ∃ c, run P (k + 1) "_law_at" [.fls (ns.map Val.int), .int i] S = .ok (.v (.int c)) S := by
  rw [run_ok h _ _ _ rfl]
  by_cases hi : i < ns.length
  · have g : (ns.map Val.int)[i]? = some (.int ns[i]) := by simp [hi]
    have g' := L2.atI_nat g
    exact ⟨ns[i], by simp [d__law_at, startE, hi, g']⟩
  · exact ⟨0, by simp [d__law_at, startE, hi]⟩
end
end Fe

/-! Puq: numbers drawn, things alike -/
namespace Fe
open PySem
section
variable (S : Sto) (l : Nat) (o : Ob)
@[simp] theorem cutS_int (i : Int) : cut S.length (.v (.int i)) (S.set l o) = .ok (.v (.int i)) (S.set l o) := cut_nr _ _ _ rfl (by simp)
@[simp] theorem cutS_bl (i : Bool) : cut S.length (.v (.bl i)) (S.set l o) = .ok (.v (.bl i)) (S.set l o) := cut_nr _ _ _ rfl (by simp)
@[simp] theorem cutS_tup (i : List Val) : cut S.length (.v (.tup i)) (S.set l o) = .ok (.v (.tup i)) (S.set l o) := cut_nr _ _ _ rfl (by simp)
@[simp] theorem cutS_lad (L : Lad) : cut S.length (.v L.v) (S.set l o) = .ok (.v L.v) (S.set l o) := cut_nr _ _ _ rfl (by simp)
@[simp] theorem cut_lad (L : Lad) : cut S.length (.v L.v) S = .ok (.v L.v) S := cut_nr _ _ _ rfl rfl
@[simp] theorem cutS_str (i : Str) : cut S.length (.v (.str i)) (S.set l o) = .ok (.v (.str i)) (S.set l o) := cut_nr _ _ _ rfl (by simp)
@[simp] theorem cutS_non : cut S.length (.v .non) (S.set l o) = .ok (.v .non) (S.set l o) := cut_nr _ _ _ rfl (by simp)
@[simp] theorem cutS_t (o' : Ob) : cut S.length (.t o') (S.set l o) = .ok (.t o') (S.set l o) := cut_t _ _ _ (by simp)
end
section
variable {P : Str → Option Fd} (k : Nat) (S : Sto)
theorem range_0 (n : Nat) (h : n ≤ 1000000) : rangeR [.v (.int (n : Int))] = some ⟨rngL 0 n, []⟩ := by
  have h5 : rngOk (n : Int) = true := by
    simp only [rngOk, Bool.and_eq_true, decide_eq_true_eq]
    omega
  have h6 : (n : Int).toNat = n := by omega
  simp only [rangeR, h5, h6, if_true]
def manyLoop : Cs := (.cons (.set 2 (.bin .add (.bin .mul (.var 2) (.bin .pow (.cst (.int 10)) (.cst (.int 6)))) (.call "_law_draw" (.cons (.var 0) (.cons (.bin .pow (.cst (.int 10)) (.cst (.int 6))) .nil))))) .nil)
theorem many_loop (h : P "_law_draw" = some d__law_draw) {l : Nat} (w : Option Val) : ∀ (xs : List Val) (S : Sto) (a b f B : Int) (z : Option Val), S[l]? = some (pu a b) → PU a b → 0 ≤ f → f + 1 ≤ B → ∃ f' a' b' z', 0 ≤ f' ∧ f' + 1 ≤ B * 1000000 ^ xs.length ∧ PU a' b' ∧ forL (evB (run P (k + 1)) manyLoop) (.n 3) [] xs [some (.ref l), w, some (.int f), z] S = .ok .nx [some (.ref l), w, some (.int f'), z'] (S.set l (pu a' b'))
  | [], S, a, b, f, B, z, hS, hp, hf, hB => ⟨f, a, b, z, hf, by simpa using hB, hp, by simp [forL, set_eq hS]⟩
  | x :: xs, S, a, b, f, B, z, hS, hp, hf, hB => by
    obtain ⟨v, a1, b1, hv, hp1, e⟩ := draw_run (P := P) k S h hS hp 1000000 (by decide) (by decide)
    have m := bin_mul S f 1000000 (mulOk_r _ _ (by decide) (by decide))
    have p := pow6 S
    obtain ⟨f', a', b', z', q1, q2, q3, q4⟩ := many_loop h w xs (S.set l (pu a1 b1)) a1 b1 (f * 1000000 + v) (B * 1000000) (some x) (set_got hS _) hp1 (by omega) (by omega)
    refine ⟨f', a', b', z', q1, ?_, q3, ?_⟩
    · rw [List.length_cons, Int.pow_succ, Int.mul_comm (1000000 ^ xs.length), ← Int.mul_assoc]
      exact q2
    · have e1 : evB (run P (k + 1)) manyLoop [some (.ref l), w, some (.int f), some x] S = .ok .nx [some (.ref l), w, some (.int (f * 1000000 + v)), some x] (S.set l (pu a1 b1)) := by
        simp [manyLoop, m, p, e]
      simp only [forL, guardS_nil', asgT_n, List.set_cons_succ, List.set_cons_zero, e1, q4, List.set_set]
def big : Int := 10 ^ 61
theorem many_run (h : P "_law_draw" = some d__law_draw) (h2 : P "_law_many" = some d__law_many) {l : Nat} {a b : Int} (hS : S[l]? = some (pu a b)) (hp : PU a b) : ∃ v a' b', (1 ≤ v ∧ v ≤ big) ∧ PU a' b' ∧ run P (k + 2) "_law_many" [.ref l] S = .ok (.v (.int v)) (S.set l (pu a' b')) := by
  obtain ⟨v, a1, b1, hv, hp1, e⟩ := draw_run (P := P) k S h hS hp 4 (by decide) (by decide)
  have hS1 := set_got hS (pu a1 b1)
  have p := pow6 (S.set l (pu a1 b1))
  have hb : big = 10000000000000000000000000000000000000000000000000000000000000 := by decide
  by_cases c0 : v = 0
  · refine ⟨1, a1, b1, ⟨by omega, by rw [hb]; decide⟩, hp1, ?_⟩
    rw [run_ok h2 _ _ _ rfl]
    simp [d__law_many, startE, e, c0]
  · by_cases c1 : v = 1
    · obtain ⟨v2, a2, b2, hv2, hp2, e2⟩ := draw_run (P := P) k (S.set l (pu a1 b1)) h hS1 hp1 6 (by decide) (by decide)
      refine ⟨1 + v2, a2, b2, ⟨by omega, by rw [hb]; omega⟩, hp2, ?_⟩
      rw [run_ok h2 _ _ _ rfl]
      subst c1
      simp [d__law_many, startE, e, e2, p]
    · by_cases c2 : v = 2
      · obtain ⟨v2, a2, b2, hv2, hp2, e2⟩ := draw_run (P := P) k (S.set l (pu a1 b1)) h hS1 hp1 1000000 (by decide) (by decide)
        refine ⟨1 + v2, a2, b2, ⟨by omega, by rw [hb]; omega⟩, hp2, ?_⟩
        rw [run_ok h2 _ _ _ rfl]
        subst c2
        simp [d__law_many, startE, e, e2, p]
      · have c3 : v = 3 := by omega
        subst c3
        have r10 := range_0 10 (by decide)
        obtain ⟨f', a', b', z', q1, q2, q3, q4⟩ := many_loop (P := P) k h (l := l) (some (.int 3)) (rngL 0 10) (S.set l (pu a1 b1)) a1 b1 0 1 none hS1 hp1 (by omega) (by omega)
        rw [rng_len] at q2
        have q2' : f' + 1 ≤ 1000000000000000000000000000000000000000000000000000000000000 := by simpa using q2
        refine ⟨if f' > 1 then f' else 1, a', b', ⟨by split <;> omega, by rw [hb]; split <;> omega⟩, q3, ?_⟩
        rw [run_ok h2 _ _ _ rfl]
        unfold manyLoop at q4
        rw [List.set_set] at q4
        simp [d__law_many, startE, e]
        have r10' : rangeR [.v (.int 10)] = some ⟨rngL 0 10, []⟩ := r10
        simp [r10', q4]
/-! ### things alike -/
theorem all_tmp {S : Sto} {xs : List Val} {bs : List Bool} (h : blsOf xs = some bs) : blt1 S .all (.t (.lst xs)) = some (.v (.bl (bs.all id))) := by simp [blt1, lstOf, lstW, h]
theorem any_tmp {S : Sto} {xs : List Val} {bs : List Bool} (h : blsOf xs = some bs) : blt1 S .any (.t (.lst xs)) = some (.v (.bl (bs.any id))) := by simp [blt1, lstOf, lstW, h]
theorem sum_tmp {S : Sto} {xs : List Val} {bs : List Int} (h : intsOf xs = some bs) : blt1 S .sum (.t (.lst xs)) = some (.v (.int bs.sum)) := by simp [blt1, lstOf, lstW, h]
def gd : Nat → Val → Prop
  | 0, _ => False
  | _ + 1, .int _ => True
  | k + 1, .tup xs => xs.length ≤ 16000000 ∧ ∀ x ∈ xs, gd k x
  | _, _ => False
theorem gd_enc : ∀ (L : Lad) (d k : Nat), L.dep ≤ d → L.siz ≤ 1000000 → 2 * d + 1 ≤ k → (∀ x ∈ L.enc, gd k x)
  | .nil, d, k, _, _, _ => by simp [Lad.enc]
  | .cons e n r, d, k, hd, hs, hk => by
    simp only [Lad.dep] at hd
    simp only [Lad.siz] at hs
    intro x hx
    simp only [Lad.enc, List.mem_cons] at hx
    rcases hx with rfl | hx
    · match d, k, hd, hk with
      | 0, _, hd, hk => omega
      | d + 1, k + 3, hd, hk =>
        refine ⟨by simp, ?_⟩
        intro y hy
        simp only [List.mem_cons, List.not_mem_nil, or_false] at hy
        rcases hy with rfl | rfl
        · exact ⟨e.enc_le (by omega), gd_enc e d (k + 1) (by omega) (by omega) (by omega)⟩
        · exact trivial
    · exact gd_enc r d k (by omega) (by omega) hk x hx
theorem gd_lad (L : Lad) (d k : Nat) (hd : L.dep ≤ d) (hs : L.siz ≤ 1000000) (hk : 2 * d + 2 ≤ k) : gd k L.v := by
  match k, hk with
  | k + 1, hk => exact ⟨L.enc_le hs, gd_enc L d k hd hs (by omega)⟩
theorem al_zip {R : Val → Val → Prop} : ∀ xs : List Val, (∀ x ∈ xs, R (.tup [x, x]) (.bl true)) → Al R (zipV xs xs) (xs.map fun _ => .bl true)
  | [], _ => .nil
  | x :: xs, h => .cons (h x (List.mem_cons_self ..)) (al_zip xs fun y hy => h y (List.mem_cons_of_mem _ hy))
theorem zip_len : ∀ xs ys : List Val, (zipV xs ys).length ≤ xs.length
  | [], _ => by simp [zipV]
  | _ :: _, [] => by simp [zipV]
  | x :: xs, y :: ys => by simp [zipV, zip_len xs ys]
theorem all_const {α : Type} : ∀ xs : List α, ((xs.map fun _ => true).all id) = true
  | [] => rfl
  | x :: xs => by simp
theorem alike_run (h : P "_law_alike" = some d__law_alike) : ∀ (k : Nat) (x : Val), gd k x → run P k "_law_alike" [x, x] S = .ok (.v (.bl true)) S
  | k + 1, .int i, _ => by
    rw [run_ok h _ _ _ rfl]
    simp [d__law_alike, startE]
  | k + 1, .tup xs, hg => by
    rw [run_ok h _ _ _ rfl]
    have A : Al (fun x y => ∃ e1, asgT (.t [.n 2, .n 3]) x [some (.tup xs), some (.tup xs), none, none] = some e1 ∧ evE (run P k) (.call "_law_alike" (.cons (.var 2) (.cons (.var 3) .nil))) e1 S = .ok (.v y) S) (zipV xs xs) (xs.map fun _ => .bl true) := by
      refine al_zip xs fun x hx => ⟨_, rfl, ?_⟩
      have ih := alike_run h k x (hg.2 x hx)
      simp [ih]
    have C := comp_run (run P k) [2, 3] _ (.zip (.var 0) (.var 1)) _ [some (.tup xs), some (.tup xs), none, none] S (xs := zipV xs xs) (by simp) (Nat.le_trans (zip_len _ _) hg.1) A
    have D := bls_map (fun _ => true) xs
    have G := all_const xs
    simp [d__law_alike, startE, C, all_tmp D, G]
end
end Fe

/-! Pus: a law's loop over the cells of its script -/
namespace Fe
open PySem
def forBody : Cs → Cs
  | .cons (.for _ _ b) _ => b
  | _ => .nil
def tailCs : Cs → Cs
  | .cons _ b => b
  | _ => .nil
theorem for_cells (body : Env → Sto → SR) (tg : Tg) (I : Env → Prop) (hb : ∀ (i : Nat) (c : Int) (env : Env) (S : Sto), i ≤ 100 → I env → ∃ env1, asgT tg (.tup [.int i, .int c]) env = some env1 ∧ ∃ env2 S2, body env1 S = .ok .nx env2 S2 ∧ I env2) :
    ∀ (cs : List Int) (i : Nat) (env : Env) (S : Sto), i + cs.length ≤ 100 → I env → ∃ env' S', forL body tg [] (enumFrom i (cs.map Val.int)) env S = .ok .nx env' S' ∧ I env'
  | [], i, env, S, _, hI => ⟨env, S, by simp [enumFrom, forL], hI⟩
  | c :: cs, i, env, S, hl, hI => by
    simp only [List.length_cons] at hl
    obtain ⟨env1, h1, env2, S2, h2, h3⟩ := hb i c env S (by omega) hI
    obtain ⟨env', S', h4, h5⟩ := for_cells body tg I hb cs (i + 1) env2 S2 (by omega) h3
    refine ⟨env', S', ?_, h5⟩
    simp only [List.map_cons, enumFrom, forL, guardS_nil', h1, h2, h4]
theorem cutL_map (ns : List Int) (lo hi : Option Int) : ∃ cs : List Int, cs.length ≤ ns.length ∧ cutL (ns.map Val.int) lo hi = cs.map Val.int := by
  refine ⟨(ns.drop (HT.sIx ns.length 0 lo)).take (HT.sIx ns.length ns.length hi - HT.sIx ns.length 0 lo), ?_, ?_⟩
  · simp only [List.length_take, List.length_drop]
    omega
  · simp only [cutL, List.length_map, List.map_drop, List.map_take]
theorem script_src {P : Str → Option Fd} (k : Nat) (h : P "_law_at" = some d__law_at) (ns : List Int) (hn : ns.length ≤ 63) (env : Env) (S : Sto) (he : env[0]? = some (some (.fls (ns.map Val.int)))) (lo hi : Int) :
    ∃ cs : List Int, cs.length ≤ 64 ∧ evI (run P (k + 1)) (.enum (.bin .add (.lst (.cons (.call "_law_at" (.cons (.var 0) (.cons (.cst (.int 0)) .nil))) .nil)) (.sl (.var 0) (.some (.cst (.int lo))) (.some (.cst (.int hi)))))) env S = .ok ⟨enumFrom 0 (cs.map Val.int), []⟩ S := by
  obtain ⟨c, hc⟩ := at_run (P := P) k S h ns 0
  obtain ⟨cs, h1, h2⟩ := cutL_map ns (some lo) (some hi)
  refine ⟨c :: cs, by simp only [List.length_cons]; omega, ?_⟩
  have hz : ((0 : Nat) : Int) = 0 := rfl
  rw [hz] at hc
  have ha : binR S .add (.t (.lst [.int c])) (.t (.lst (cs.map Val.int))) = some (.t (.lst (.int c :: cs.map Val.int))) := by
    have hl : [Val.int c].length + (cs.map Val.int).length ≤ sizeLine := le_line (by simp only [List.length_cons, List.length_nil, List.length_map]; omega)
    simp only [binR, addR, lstW, if_pos hl]
    rfl
  simp [he, hc, slR, lstOf, h2, ha]
theorem got_end (S : Sto) (o : Ob) : (S ++ [o])[S.length]? = some o := by simp
/-- the laws that walk their cells, each with a purse -/
theorem law_cells {P : Str → Option Fd} (k : Nat) (dl : Fd) (h : P "law" = some dl) (hat : P "_law_at" = some d__law_at) (hpu : P "_law_purse" = some d__law_purse) (lo hi : Int) (R : Cs) (m : Nat) (hnp : dl.np = 1) (hm : dl.n = m + 4)
    (hb : dl.body = .cons (.for (.t [.n 1, .n 2]) (.enum (.bin .add (.lst (.cons (.call "_law_at" (.cons (.var 0) (.cons (.cst (.int 0)) .nil))) .nil)) (.sl (.var 0) (.some (.cst (.int lo))) (.some (.cst (.int hi)))))) (.cons (.set 3 (.call "_law_purse" (.cons (.var 2) (.cons (.var 1) .nil)))) R)) (.cons (.ret (.some (.cst (.bl true)))) .nil))
    (hR : ∀ (s i c : Option Val) (xs : List (Option Val)) (S : Sto) (l : Nat) (a b : Int), xs.length = m → S[l]? = some (pu a b) → PU a b → ∃ ys S2, ys.length = m ∧ evB (run P (k + 1)) R (s :: i :: c :: some (.ref l) :: xs) S = .ok .nx (s :: i :: c :: some (.ref l) :: ys) S2)
    (ns : List Int) (hn : ns.length ≤ 63) : ∃ S', run P (k + 2) "law" [.fls (ns.map Val.int)] [] = .ok (.v (.bl true)) S' := by
  obtain ⟨cs, hc, hs⟩ := script_src (P := P) k hat ns hn (some (.fls (ns.map Val.int)) :: none :: none :: none :: List.replicate m none) [] rfl lo hi
  obtain ⟨env', S', h1, x1, x2, x3, ys, hy, h2⟩ := for_cells (evB (run P (k + 1)) (.cons (.set 3 (.call "_law_purse" (.cons (.var 2) (.cons (.var 1) .nil)))) R)) (.t [.n 1, .n 2]) (fun env => ∃ x1 x2 x3 xs, xs.length = m ∧ env = some (.fls (ns.map Val.int)) :: x1 :: x2 :: x3 :: xs) (by
    rintro i c env S hi ⟨x1, x2, x3, xs, hx, rfl⟩
    refine ⟨_, rfl, ?_⟩
    obtain ⟨a, b, hp, e⟩ := purse_run (P := P) k S hpu c i (by omega) (by omega)
    obtain ⟨ys, S2, hy, h⟩ := hR (some (.fls (ns.map Val.int))) (some (.int i)) (some (.int c)) xs (S ++ [pu a b]) S.length a b hx (got_end S _) hp
    refine ⟨_, S2, ?_, some (.int i), some (.int c), some (.ref S.length), ys, hy, rfl⟩
    rw [evB_cons]
    simp [e]
    exact h) cs 0 (some (.fls (ns.map Val.int)) :: none :: none :: none :: List.replicate m none) [] (by omega) ⟨_, _, _, _, by simp, rfl⟩
  refine ⟨S', ?_⟩
  have hst : startE dl.n [.fls (ns.map Val.int)] = some (.fls (ns.map Val.int)) :: none :: none :: none :: List.replicate m none := by
    rw [hm]
    simp only [startE, List.map, List.length, Nat.add_sub_cancel]
    rfl
  rw [run_ok h _ _ _ (by rw [hnp]; rfl), hb, evB_cons, evS_for, hst, hs]
  simp only [st_ok]
  rw [h1]
  simp
end Fe

/-! LadC: the order of ladders, rows that become ladders -/
namespace Fe
open PySem PySem.W PySem.SeqAt PyProof.Rows
namespace Lad
theorem less_irr : ∀ L : Lad, less L L = false
  | nil => by simp [less]
  | cons e n r => by simp [less, less_irr r]
theorem less_tri : ∀ L M : Lad, less L M = false → less M L = false → L = M
  | nil, nil, _, _ => rfl
  | nil, cons _ _ _, h, _ => by simp [less] at h
  | cons _ _ _, nil, _, h => by simp [less] at h
  | cons e n r, cons e' n' r', h, h' => by
    by_cases he : e = e'
    · subst he
      by_cases hn : n = n'
      · subst hn
        simp [less] at h h'
        rw [less_tri r r' h h']
      · have hn' : ¬ n' = n := fun q => hn q.symm
        simp [less, hn, hn'] at h h'
        omega
    · have he' : ¬ e' = e := fun q => he q.symm
      simp [less, he, he'] at h h'
      exact absurd (less_tri e e' h h') he
theorem less_asym : ∀ L M : Lad, less L M = true → less M L = false
  | nil, nil, h => by simp [less] at h
  | nil, cons _ _ _, _ => by simp [less]
  | cons _ _ _, nil, h => by simp [less] at h
  | cons e n r, cons e' n' r', h => by
    by_cases he : e = e'
    · subst he
      by_cases hn : n = n'
      · subst hn
        simp [less] at h ⊢
        exact less_asym r r' h
      · have hn' : ¬ n' = n := fun q => hn q.symm
        simp [less, hn, hn'] at h ⊢
        omega
    · have he' : ¬ e' = e := fun q => he q.symm
      simp [less, he, he'] at h ⊢
      exact less_asym e e' h
theorem less_ne {L M : Lad} (h : less L M = true) : L ≠ M := by
  rintro rfl
  rw [less_irr] at h
  cases h
theorem less_trans : ∀ L M N : Lad, less L M = true → less M N = true → less L N = true
  | _, _, nil, _, h => by simp [less] at h
  | _, nil, _, h, _ => by simp [less] at h
  | nil, cons _ _ _, cons _ _ _, _, _ => by simp [less]
  | cons e n r, cons e' n' r', cons e'' n'' r'', h1, h2 => by
    by_cases he : e = e'
    · subst he
      by_cases he2 : e = e''
      · subst he2
        by_cases hn : n = n'
        · subst hn
          by_cases hn2 : n = n''
          · subst hn2
            simp [less] at h1 h2 ⊢
            exact less_trans r r' r'' h1 h2
          · simp [less, hn2] at h1 h2 ⊢
            exact h2
        · by_cases hn2 : n' = n''
          · subst hn2
            simp [less, hn] at h1 h2 ⊢
            exact h1
          · simp [less, hn, hn2] at h1 h2
            have : ¬ n = n'' := by omega
            simp [less, this]
            omega
      · simp [less, he2] at h2 ⊢
        exact h2
    · by_cases he2 : e' = e''
      · subst he2
        simp [less, he] at h1 ⊢
        exact h1
      · simp [less, he, he2] at h1 h2
        have q := less_trans e e' e'' h1 h2
        have hne := less_ne q
        simp [less, hne, q]
theorem alike_enc : ∀ L M : Lad, alikeAll (Val.pdL L.enc) (Val.pdL M.enc) = true
  | nil, _ => by simp [enc, Val.pdL, alikeAll]
  | cons _ _ _, nil => by simp [enc, Val.pdL, alikeAll]
  | cons e n r, cons e' n' r' => by simp [enc, Val.pdL, Val.pd, alikeAll, alike, alike_enc e e', alike_enc r r']
end Lad
theorem lex_len (a b : Int) (l m : List (Int ⊕ List Nat)) (h : a ≠ b) : PyProof.Rows.lexLt itemOrd (.inl a :: l) (.inl b :: m) = decide (a < b) := by
  rw [lex_atom (fun q => h (Sum.inl.inj q)), ← dataLt_int]
  simp only [dataLt, keyToks]
theorem toks_enc : ∀ L M : Lad, PyProof.Rows.lexLt itemOrd (keyToksAll (Val.pdL L.enc)) (keyToksAll (Val.pdL M.enc)) = Lad.less L M
  | .nil, .nil => by
    simp only [Lad.enc, Val.pdL, keyToksAll, Lad.less]
    have := dataLt_int 0 0
    simpa [dataLt, keyToks] using this
  | .nil, .cons e n r => by
    simp only [Lad.enc, Val.pdL, keyToksAll, Lad.less]
    rw [lex_len _ _ _ _ (by decide)]
    rfl
  | .cons e n r, .nil => by
    simp only [Lad.enc, Val.pdL, keyToksAll, Lad.less]
    rw [lex_len _ _ _ _ (by decide)]
    rfl
  | .cons e n r, .cons e' n' r' => by
    have ha : alike (.tuple [.tuple (Val.pdL e.enc), .int n]) (.tuple [.tuple (Val.pdL e'.enc), .int n']) = true := by simp [alike, alikeAll, Lad.alike_enc]
    have ha1 : alike (.tuple (Val.pdL e.enc)) (.tuple (Val.pdL e'.enc)) = true := by simp [alike, Lad.alike_enc]
    have hq : PyData.eqv (.tuple [.tuple (Val.pdL e.enc), .int n]) (.tuple [.tuple (Val.pdL e'.enc), .int n']) = (decide (e = e') && (n == n')) := by simp [PyData.eqv, PyData.eqvAll, Lad.eqv_enc]
    have hq1 : PyData.eqv (.tuple (Val.pdL e.enc)) (.tuple (Val.pdL e'.enc)) = decide (e = e') := by simp [PyData.eqv, Lad.eqv_enc]
    simp only [Lad.enc, Val.pdL, Val.pd]
    by_cases he : e = e'
    · by_cases hn : n = n'
      · rw [dataLt_all_yes ha (by rw [hq]; simp [he, hn]), toks_enc r r']
        simp [Lad.less, he, hn]
      · rw [dataLt_all_no ha (by rw [hq]; simp [hn]), dataLt_tuple, dataLt_all_yes ha1 (by rw [hq1]; simp [he])]
        have hai : alike (.int n) (.int n') = true := by simp [alike]
        rw [dataLt_all_no hai (by simp [PyData.eqv, hn]), dataLt_int]
        simp [Lad.less, he, hn]
    · rw [dataLt_all_no ha (by rw [hq]; simp [he]), dataLt_tuple, dataLt_all_no ha1 (by rw [hq1]; simp [he]), dataLt_tuple, toks_enc e e']
      simp [Lad.less, he]
theorem lt_enc (L M : Lad) : dataLt (.tuple (Val.pdL L.enc)) (.tuple (Val.pdL M.enc)) = Lad.less L M := by rw [dataLt_tuple, toks_enc]
/-- Python's < of ladders -/
theorem ltR_enc (L M : Lad) (h : L.dep ≤ 28) : ltR (.tup L.enc) (.tup M.enc) = some (Lad.less L M) := by
  have hd : min (PyData.depth (.tuple (Val.pdL L.enc))) (PyData.depth (.tuple (Val.pdL M.enc))) ≤ 60 := by
    have := Lad.depth_enc L
    simp only [PyData.depth]
    omega
  have ha : alike (.tuple (Val.pdL L.enc)) (.tuple (Val.pdL M.enc)) = true := by simp [alike, Lad.alike_enc]
  simp only [ltR, Lad.bel, and_self, if_true, ltD, ha, hd, lt_enc]
/-- Python's > of ladders -/
theorem gtR_enc (L M : Lad) (h : L.dep ≤ 28) : gtR (.tup L.enc) (.tup M.enc) = some (Lad.less M L) := by
  have hd : min (PyData.depth (.tuple (Val.pdL L.enc))) (PyData.depth (.tuple (Val.pdL M.enc))) ≤ 60 := by
    have := Lad.depth_enc L
    simp only [PyData.depth]
    omega
  have ha : alike (.tuple (Val.pdL L.enc)) (.tuple (Val.pdL M.enc)) = true := by simp [alike, Lad.alike_enc]
  simp only [gtR, Lad.bel, and_self, if_true, gtD, ha, hd, lt_enc]
theorem cmp_gtV (S : Sto) (x y : Val) : cmpR S .gt (.v x) (.v y) = gtR x y := rfl
/-! ### rows -/
abbrev Row := Lad × Int
def pr (p : Row) : Val := .tup [.tup p.1.enc, .int p.2]
def toLad : List Row → Lad
  | [] => .nil
  | p :: r => .cons p.1 p.2 (toLad r)
theorem enc_toLad : ∀ rs : List Row, (toLad rs).enc = rs.map pr
  | [] => rfl
  | p :: r => by simp [toLad, Lad.enc, pr, enc_toLad r]
def plt (p q : Row) : Bool := if p.1 = q.1 then decide (p.2 < q.2) else Lad.less p.1 q.1
theorem lt_pr (p q : Row) : dataLt (pr p).pd (pr q).pd = plt p q := by
  have h := toks_enc (.cons p.1 p.2 .nil) (.cons q.1 q.2 .nil)
  have ha : alike (pr p).pd (pr q).pd = true := by simp [pr, Val.pd, Val.pdL, alike, alikeAll, Lad.alike_enc]
  have hq : PyData.eqv (pr p).pd (pr q).pd = (decide (p.1 = q.1) && (p.2 == q.2)) := by simp [pr, Val.pd, Val.pdL, PyData.eqv, PyData.eqvAll, Lad.eqv_enc]
  have e : ∀ p : Row, Val.pdL (Lad.enc (.cons p.1 p.2 .nil)) = [(pr p).pd] := fun p => by simp [Lad.enc, Val.pdL, pr]
  rw [e, e] at h
  by_cases h1 : p.1 = q.1
  · by_cases h2 : p.2 = q.2
    · have : p = q := Prod.ext h1 h2
      subst this
      have hz : dataLt (pr p).pd (pr p).pd = false := by
        unfold dataLt
        have := lex_pre (keyToks (pr p).pd) [.inl 0] [.inl 0]
        have z := dataLt_int 0 0
        have e0 : PyProof.Rows.lexLt itemOrd (keyToks (pr p).pd) (keyToks (pr p).pd) = PyProof.Rows.lexLt itemOrd (keyToks (pr p).pd ++ []) (keyToks (pr p).pd ++ []) := by simp
        rw [e0, lex_pre]
        rfl
      rw [hz]
      simp [plt]
    · rw [dataLt_all_no ha (by rw [hq]; simp [h2])] at h
      rw [h]
      simp [plt, Lad.less, h1, h2]
  · rw [dataLt_all_no ha (by rw [hq]; simp [h1])] at h
    rw [h]
    simp [plt, Lad.less, h1]
theorem plt_trans (p q r : Row) (h1 : plt p q = true) (h2 : plt q r = true) : plt p r = true := by
  unfold plt at *
  by_cases a : p.1 = q.1
  · by_cases b : q.1 = r.1
    · rw [if_pos a] at h1
      rw [if_pos b] at h2
      rw [if_pos (a.trans b)]
      simp at *
      omega
    · rw [if_neg b] at h2
      rw [if_neg (by rw [a]; exact b), a]
      exact h2
  · rw [if_neg a] at h1
    by_cases b : q.1 = r.1
    · rw [if_neg (by rw [← b]; exact a), ← b]
      exact h1
    · rw [if_neg b] at h2
      have t := Lad.less_trans _ _ _ h1 h2
      rw [if_neg (Lad.less_ne t)]
      exact t
theorem plt_tri (p q : Row) (h1 : plt p q = false) (h2 : plt q p = false) : p = q := by
  unfold plt at *
  by_cases a : p.1 = q.1
  · rw [if_pos a] at h1
    rw [if_pos a.symm] at h2
    simp at h1 h2
    exact Prod.ext a (by omega)
  · rw [if_neg a] at h1
    rw [if_neg (fun q => a q.symm)] at h2
    exact absurd (Lad.less_tri _ _ h1 h2) a
theorem plt_asym (p q : Row) (h : plt p q = true) : plt q p = false := by
  unfold plt at *
  by_cases a : p.1 = q.1
  · rw [if_pos a] at h
    rw [if_pos a.symm]
    simp at *
    omega
  · rw [if_neg a] at h
    rw [if_neg (fun q => a q.symm)]
    exact Lad.less_asym _ _ h
def ple (p q : Row) : Bool := !plt q p
theorem ple_trans (p q r : Row) (h1 : ple p q = true) (h2 : ple q r = true) : ple p r = true := by
  simp only [ple, Bool.not_eq_true'] at *
  cases h : plt r p with
  | false => rfl
  | true =>
    cases h3 : plt p q with
    | true =>
      have := plt_trans _ _ _ h h3
      rw [this] at h2
      cases h2
    | false =>
      have := plt_tri p q h3 h1
      subst this
      rw [h] at h2
      cases h2
theorem ple_total (p q : Row) : (ple p q || ple q p) = true := by
  simp only [ple]
  cases h : plt q p
  · rfl
  · rw [plt_asym _ _ h]
    rfl
def srt (rs : List Row) : List Row := rs.mergeSort ple
theorem sortV_rows (rs : List Row) : sortV (rs.map pr) = (srt rs).map pr := by
  unfold sortV srt
  rw [← List.map_mergeSort]
  intro a _ b _
  rw [lt_pr]
  rfl
theorem srt_perm (rs : List Row) : (srt rs).Perm rs := List.mergeSort_perm _ _
theorem srt_sorted (rs : List Row) : (srt rs).Pairwise fun a b => ple a b = true := List.pairwise_mergeSort ple_trans ple_total rs
end Fe

/-! LadD: rows become ladders; ladders drawn -/
namespace Fe
open PySem
/-- every number of a ladder is at most B -/
def Lad.bnd (B : Int) : Lad → Bool
  | .nil => true
  | .cons e n r => e.bnd B && decide (n ≤ B) && r.bnd B
def rsz : List Row → Nat
  | [] => 0
  | p :: r => p.1.siz + 1 + rsz r
theorem siz_toLad : ∀ rs : List Row, (toLad rs).siz = rsz rs
  | [] => rfl
  | p :: r => by simp only [toLad, Lad.siz, rsz, siz_toLad r]; omega
theorem rsz_perm {a b : List Row} (h : a.Perm b) : rsz a = rsz b := by
  induction h with
  | nil => rfl
  | cons x _ ih => simp only [rsz, ih]
  | swap x y l => simp only [rsz]; omega
  | trans _ _ h1 h2 => rw [h1, h2]
theorem rsz_filter (p : Row → Bool) : ∀ rs : List Row, rsz (rs.filter p) ≤ rsz rs
  | [] => Nat.le_refl _
  | x :: r => by
    have := rsz_filter p r
    simp only [List.filter]
    split
    · simp only [rsz]; omega
    · simp only [rsz]; omega
theorem rsz_append : ∀ a b : List Row, rsz (a ++ b) = rsz a + rsz b
  | [], b => by simp [rsz]
  | x :: a, b => by simp only [List.cons_append, rsz, rsz_append a b]; omega
theorem rsz_len : ∀ rs : List Row, rs.length ≤ rsz rs
  | [] => Nat.le_refl _
  | x :: r => by
    have := rsz_len r
    simp only [List.length_cons, rsz]
    omega
theorem dep_toLad (d : Nat) : ∀ rs : List Row, (∀ p ∈ rs, p.1.dep ≤ d) → (toLad rs).dep ≤ d + 1
  | [], _ => by simp [toLad, Lad.dep]
  | p :: r, h => by
    have h1 := h p (List.mem_cons_self ..)
    have h2 := dep_toLad d r fun q hq => h q (List.mem_cons_of_mem _ hq)
    simp only [toLad, Lad.dep]
    omega
theorem pairs_toLad : ∀ rs : List Row, (∀ p ∈ rs, p.1.ok = true ∧ 1 ≤ p.2) → (toLad rs).pairsOk = true
  | [], _ => rfl
  | p :: r, h => by
    obtain ⟨h1, h3⟩ := h p (List.mem_cons_self ..)
    have h2 := pairs_toLad r fun q hq => h q (List.mem_cons_of_mem _ hq)
    simp only [Lad.ok, Bool.and_eq_true] at h1
    simp [toLad, Lad.pairsOk, h1.1, h1.2, h2, h3]
theorem bnd_toLad (B : Int) : ∀ rs : List Row, (∀ p ∈ rs, p.1.bnd B = true ∧ p.2 ≤ B) → (toLad rs).bnd B = true
  | [], _ => rfl
  | p :: r, h => by
    obtain ⟨h1, h3⟩ := h p (List.mem_cons_self ..)
    have h2 := bnd_toLad B r fun q hq => h q (List.mem_cons_of_mem _ hq)
    simp [toLad, Lad.bnd, h1, h2, h3]
theorem falls_toLad : ∀ rs : List Row, rs.Pairwise (fun a b => Lad.less b.1 a.1 = true) → (toLad rs).falls = true
  | [], _ => rfl
  | [p], _ => rfl
  | p :: q :: r, h => by
    have h' := List.pairwise_cons.mp h
    have h1 := h'.1 q (List.mem_cons_self ..)
    have h2 := falls_toLad (q :: r) h'.2
    simp only [toLad] at h2 ⊢
    rw [Lad.falls, h1, h2]
    rfl
/-- rows with exponents that differ, sorted and turned about, are a ladder -/
theorem srt_ok (rs : List Row) (hd : rs.Pairwise fun a b => a.1 ≠ b.1) (h : ∀ p ∈ rs, p.1.ok = true ∧ 1 ≤ p.2) : (toLad (srt rs).reverse).ok = true := by
  have hp := srt_perm rs
  have hd' : (srt rs).Pairwise fun a b => a.1 ≠ b.1 := (hp.symm.pairwise_iff (fun {a b} q => fun e => q e.symm)).mp hd
  have hs := srt_sorted rs
  have hb : (srt rs).Pairwise fun a b => Lad.less a.1 b.1 = true := by
    refine (hs.and hd').imp ?_
    rintro a b ⟨h1, h2⟩
    simp only [ple, Bool.not_eq_true', plt] at h1
    rw [if_neg (fun q => h2 q.symm)] at h1
    cases h3 : Lad.less a.1 b.1 with
    | true => rfl
    | false => exact absurd (Lad.less_tri _ _ h3 h1) h2
  simp only [Lad.ok, Bool.and_eq_true]
  refine ⟨pairs_toLad _ ?_, falls_toLad _ ?_⟩
  · intro p hp'
    exact h p (hp.mem_iff.mp (List.mem_reverse.mp hp'))
  · exact List.pairwise_reverse.mpr hb
theorem sortOk_rows (rs : List Row) (hd : ∀ p ∈ rs, p.1.dep ≤ 28) (hl : rs.length ≤ 1000000) : sortOk (rs.map pr) = true := by
  have h1 : Val.belL 0 (rs.map pr) = true := by
    have := Lad.bel 0 (toLad rs)
    rwa [enc_toLad] at this
  have h4 : (rs.map pr).length ≤ sizeLine := le_line (by rw [List.length_map]; omega)
  simp only [sortOk, h1, decide_eq_true h4, Bool.true_and, Bool.and_eq_true, Bool.and_true]
  refine ⟨⟨?_, ?_⟩, ?_⟩
  · simp only [List.all_eq_true]
    intro x hx y hy
    obtain ⟨p, _, rfl⟩ := List.mem_map.mp hx
    obtain ⟨q, _, rfl⟩ := List.mem_map.mp hy
    simp [pr, Val.pd, Val.pdL, PySem.W.alike, PySem.W.alikeAll, Lad.alike_enc]
  · simp only [Bool.or_eq_true, List.all_eq_true]
    left
    intro x hx
    obtain ⟨p, _, rfl⟩ := List.mem_map.mp hx
    rfl
  · simp only [List.all_eq_true]
    intro x hx
    obtain ⟨p, hp, rfl⟩ := List.mem_map.mp hx
    have := hd p hp
    have := Lad.depth_enc p.1
    simp only [pr, Val.pd, Val.pdL, PyData.depth, PyData.depthAll, decide_eq_true_eq]
    omega
/-! ### what a call may change -/
/-- S' is S but for the things at ls, and perhaps longer -/
structure Fr (ls : List Nat) (S S' : Sto) : Prop where
  le : S.length ≤ S'.length
  eq : ∀ j, j < S.length → j ∉ ls → S'[j]? = S[j]?
theorem Fr.refl (ls : List Nat) (S : Sto) : Fr ls S S := ⟨Nat.le_refl _, fun _ _ _ => rfl⟩
theorem Fr.trans {ls : List Nat} {S S' S'' : Sto} (a : Fr ls S S') (b : Fr ls S' S'') : Fr ls S S'' := ⟨Nat.le_trans a.le b.le, fun j h1 h2 => (b.eq j (Nat.lt_of_lt_of_le h1 a.le) h2).trans (a.eq j h1 h2)⟩
theorem Fr.set {ls : List Nat} (S : Sto) {l : Nat} (o : Ob) (h : l ∈ ls) : Fr ls S (S.set l o) := ⟨by simp, fun j h1 h2 => by
  rw [List.getElem?_set_ne]
  rintro rfl
  exact h2 h⟩
theorem Fr.app {ls : List Nat} (S : Sto) (o : Ob) : Fr ls S (S ++ [o]) := ⟨by simp, fun j h1 h2 => by rw [List.getElem?_append_left h1]⟩
theorem Fr.mono {ls ms : List Nat} {S S' : Sto} (a : Fr ls S S') (h : ∀ l ∈ ls, l ∈ ms) : Fr ms S S' := ⟨a.le, fun j h1 h2 => a.eq j h1 fun q => h2 (h j q)⟩
theorem Fr.low {ls ms : List Nat} {S S' S0 : Sto} (a : Fr ls S S') (h0 : S0.length ≤ S.length) (h : ∀ l ∈ ls, l ∈ ms ∨ S0.length ≤ l) (b : Fr ms S0 S) : Fr ms S0 S' := ⟨Nat.le_trans b.le a.le, fun j h1 h2 => by
  rw [a.eq j (by omega) ?_, b.eq j h1 h2]
  intro q
  rcases h j q with q | q
  · exact h2 q
  · omega⟩
theorem cut_fr (x : Val) (n : Nat) (S2 : Sto) (hx : nref x = true) (hn : n ≤ S2.length) : ∃ S3, cut n (.v x) S2 = .ok (.v x) S3 ∧ n ≤ S3.length ∧ ∀ j < n, S3[j]? = S2[j]? := by
  have t1 : n ≤ (S2.take n).length := by rw [List.length_take]; omega
  have t2 : ∀ j < n, (S2.take n)[j]? = S2[j]? := fun j hj => by rw [List.getElem?_take, if_pos hj]
  unfold cut
  split
  · cases x with
    | ref l => cases hx
    | _ =>
      dsimp only
      split
      · exact ⟨_, rfl, t1, t2⟩
      · exact ⟨_, rfl, hn, fun _ _ => rfl⟩
  · exact ⟨_, rfl, hn, fun _ _ => rfl⟩
theorem Fr.cut {ls : List Nat} {S S2 S3 : Sto} (a : Fr ls S S2) (h1 : S.length ≤ S3.length) (h2 : ∀ j < S.length, S3[j]? = S2[j]?) : Fr ls S S3 := ⟨h1, fun j hj hl => (h2 j hj).trans (a.eq j hj hl)⟩
/-- a comprehension that keeps some of a list that stands in the store -/
theorem comp_filter (cond : Env → Sto → Res Bool) (elt : Env → Sto → Res Rv) (tg : Tg) (env : Env) (S : Sto) (live : List (Nat × List Val)) (hv : liveOk S live) {α : Type} (f : α → Val) (p : α → Bool) :
    ∀ (xs : List α) (acc : List Val), (∀ x ∈ xs, ∃ e1, asgT tg (f x) env = some e1 ∧ cond e1 S = .ok (p x) S ∧ elt e1 S = .ok (.v (f x)) S) → compL cond elt tg env live (xs.map f) acc S = .ok (.t (.lst (acc ++ (xs.filter p).map f))) S
  | [], acc, h => by simp [compL, guardL_pos _ hv]
  | x :: xs, acc, h => by
    obtain ⟨e1, h1, h2, h3⟩ := h x (List.mem_cons_self ..)
    have ih := comp_filter cond elt tg env S live hv f p xs
    have h' := fun y hy => h y (List.mem_cons_of_mem x hy)
    rw [List.map_cons, compL, guardL_pos _ hv]
    simp only [h1, h2, h3, bind_ok, lay_v]
    cases hp : p x
    · rw [if_neg (by simp), ih _ h']
      simp [List.filter, hp]
    · rw [if_pos rfl, ih _ h']
      simp [List.filter, hp]
end Fe

/-! LadE: ladders drawn -/
namespace Fe
open PySem
def d__law_ladder : Fd := ⟨3, 7, (.cons (.set 3 (.lst .nil)) (.cons (.for (.n 4) (.rg1 (.call "_law_draw" (.cons (.var 0) (.cons (.ix (.lst (.cons (.cst (.int 3)) (.cons (.cst (.int 4)) (.cons (.cst (.int 5)) (.cons (.cst (.int 9)) .nil))))) (.call "_law_draw" (.cons (.var 0) (.cons (.cst (.int 4)) .nil)))) .nil)))) (.cons (.ite (.cmp .gt (.ix (.var 2) (.cst (.int 0))) (.cst (.int 0))) (.cons (.setIx (.var 2) (.cst (.int 0)) (.bin .sub (.ix (.var 2) (.cst (.int 0))) (.cst (.int 1)))) (.cons (.set 5 (.tup .nil)) (.cons (.ite (.cmp .gt (.var 1) (.cst (.int 1))) (.cons (.set 5 (.call "_law_ladder" (.cons (.var 0) (.cons (.bin .sub (.var 1) (.cst (.int 1))) (.cons (.var 2) .nil))))) .nil) .nil) (.cons (.set 3 (.bin .add (.comp [6] (.n 6) (.e (.var 3)) (.some (.cmp .ne (.ix (.var 6) (.cst (.int 0))) (.var 5))) (.var 6)) (.lst (.cons (.tup (.cons (.var 5) (.cons (.call "_law_many" (.cons (.var 0) .nil)) .nil))) .nil)))) .nil)))) .nil) .nil)) (.cons (.ret (.some (.blt .tuple (.cons (.rev (.blt .sorted (.cons (.var 3) .nil))) .nil)))) .nil)))⟩
def nthCs : Cs → Nat → C
  | .cons c _, 0 => c
  | .cons _ r, n + 1 => nthCs r n
  | _, _ => .pass
def forOf : C → Cs
  | .for _ _ b => b
  | _ => .nil
def thenOf : C → Cs
  | .ite _ b _ => b
  | _ => .nil
structure Rs (u c0 : Nat) (S0 S : Sto) (l m r : Nat) (rows : List Row) (a b : Int) (c : Nat) : Prop where
  hp : PU a b
  hl : S[l]? = some (pu a b)
  hm : S[m]? = some (.lst [.int c])
  hr : S[r]? = some (.lst (rows.map pr))
  lr : S0.length ≤ r
  fr : Fr [l, m] S0 S
  dis : rows.Pairwise fun p q => p.1 ≠ q.1
  rok : ∀ p ∈ rows, p.1.ok = true ∧ 1 ≤ p.2
  rb : ∀ p ∈ rows, p.1.bnd big = true ∧ p.2 ≤ big
  rd : ∀ p ∈ rows, p.1.dep + 1 ≤ u
  sz : rsz rows + c ≤ c0
/-- a ladder that was drawn -/
structure Drw (L : Lad) (u c c' : Nat) : Prop where
  ok : L.ok = true
  bnd : L.bnd big = true
  dep : L.dep ≤ u
  siz : L.siz + c' ≤ c
def LadSp (T : Fns) (l m u : Nat) : Prop := ∀ (S : Sto) (a b : Int) (c : Nat), c ≤ 1000 → S[l]? = some (pu a b) → PU a b → S[m]? = some (.lst [.int c]) → ∃ (L : Lad) (c' : Nat) (a' b' : Int) (S' : Sto), T "_law_ladder" [.ref l, .int u, .ref m] S = .ok (.v L.v) S' ∧ Drw L u c c' ∧ PU a' b' ∧ S'[l]? = some (pu a' b') ∧ S'[m]? = some (.lst [.int c']) ∧ Fr [l, m] S S'
section
variable {P : Str → Option Fd}
def ladBody : Cs := forOf (nthCs d__law_ladder.body 1)
theorem fr_ne {ls : List Nat} {S S' : Sto} (f : Fr ls S S') {j : Nat} {o : Ob} (h : S[j]? = some o) (hj : j ∉ ls) : S'[j]? = some o := by rw [f.eq j (got_lt h) hj, h]
/-- the exponent of a turn -/
theorem turn_exp (k l m u : Nat) (hu : 1 ≤ u) (hlm : l ≠ m) (hT : 1 < u → LadSp (run P k) l m (u - 1)) (S : Sto) (a b : Int) (c : Nat) (hc : c ≤ 1000) (hl : S[l]? = some (pu a b)) (hp : PU a b) (hm : S[m]? = some (.lst [.int c])) (r : Nat) (t y : Option Val) :
    ∃ (L : Lad) (c' : Nat) (a' b' : Int) (S' : Sto), evS (run P k) (nthCs (thenOf (nthCs ladBody 0)) 2) [some (.ref l), some (.int u), some (.ref m), some (.ref r), t, some (.tup []), y] S = .ok .nx [some (.ref l), some (.int u), some (.ref m), some (.ref r), t, some L.v, y] S' ∧ Drw L (u - 1) c c' ∧ PU a' b' ∧ S'[l]? = some (pu a' b') ∧ S'[m]? = some (.lst [.int c']) ∧ Fr [l, m] S S' := by
  by_cases h : 1 < u
  · obtain ⟨L, c', a', b', S2, e, d, p, g1, g2, f⟩ := hT h S a b c hc hl hp hm
    obtain ⟨S3, ec, f1, f2⟩ := cut_fr L.v S.length S2 rfl f.le
    have hi : ((u : Int) - 1) = ((u - 1 : Nat) : Int) := by omega
    have hi1 : (1 : Int) < (u : Int) := by omega
    refine ⟨L, c', a', b', S3, ?_, d, p, ?_, ?_, f.cut f1 f2⟩
    · simp [nthCs, thenOf, ladBody, forOf, d__law_ladder, hi1, hi, e, ec]
    · rw [f2 l (got_lt hl), g1]
    · rw [f2 m (got_lt hm), g2]
  · have hi1 : ¬ (1 : Int) < (u : Int) := by omega
    refine ⟨.nil, c, a, b, S, ?_, ⟨rfl, rfl, by simp [Lad.dep], by simp [Lad.siz]⟩, hp, hl, hm, Fr.refl _ _⟩
    simp [nthCs, thenOf, ladBody, forOf, d__law_ladder, hi1, Lad.v, Lad.enc]
theorem turn_comp (k l m u : Nat) (S : Sto) (r : Nat) (rows : List Row) (hr : S[r]? = some (.lst (rows.map pr))) (hd : ∀ p ∈ rows, p.1.dep ≤ 30) (hlen : rows.length ≤ 1000000) (e : Lad) (he : e.dep ≤ 30) (t y : Option Val) :
    evE (run P k) (.comp [6] (.n 6) (.e (.var 3)) (.some (.cmp .ne (.ix (.var 6) (.cst (.int 0))) (.var 5))) (.var 6)) [some (.ref l), some (.int u), some (.ref m), some (.ref r), t, some e.v, y] S = .ok (.t (.lst ((rows.filter fun q => !decide (q.1 = e)).map pr))) S := by
  have hs : srcOf S (.v (.ref r)) = some ⟨rows.map pr, [(r, rows.map pr)]⟩ := by simp [srcOf, hr]
  have hl : (rows.map pr).length ≤ sizeLine := le_line (by rw [List.length_map]; omega)
  have C := comp_filter (evC (run P k) (.some (.cmp .ne (.ix (.var 6) (.cst (.int 0))) (.var 5)))) (evE (run P k) (.var 6)) (.n 6) [some (.ref l), some (.int u), some (.ref m), some (.ref r), t, some e.v, none] S [(r, rows.map pr)] ⟨hr, trivial⟩ pr (fun q => !decide (q.1 = e)) rows [] (by
    intro q hq
    refine ⟨_, rfl, ?_, ?_⟩
    · have E := Lad.eqR_enc S q.1 e (by have := hd q hq; omega) (by omega)
      simp [evC_some, pr, Lad.v, E]
    · simp)
  rw [evE_comp]
  simp only [evI_e, evE_var, List.getElem?_cons_zero, List.getElem?_cons_succ, bind_ok, hs, of_some, if_pos hl, wipeE_cons, wipeE_nil, List.set_cons_succ, List.set_cons_zero]
  rw [C]
  simp
theorem turn_run (k l m u c0 : Nat) (hu : 1 ≤ u) (hu' : u ≤ 20) (hc0 : c0 ≤ 1000) (hlm : l ≠ m) (h1 : P "_law_draw" = some d__law_draw) (h2 : P "_law_many" = some d__law_many) (hT : 1 < u → LadSp (run P (k + 2)) l m (u - 1)) (S0 S : Sto) (a b : Int) (c r : Nat) (rows : List Row) (hl0 : l < S0.length) (hm0 : m < S0.length) (R : Rs u c0 S0 S l m r rows a b c) (t x y : Option Val) :
    ∃ (r' : Nat) (rows' : List Row) (a' b' : Int) (c' : Nat) (S' : Sto) (x' : Option Val), evB (run P (k + 2)) ladBody [some (.ref l), some (.int u), some (.ref m), some (.ref r), t, x, y] S = .ok .nx [some (.ref l), some (.int u), some (.ref m), some (.ref r'), t, x', y] S' ∧ Rs u c0 S0 S' l m r' rows' a' b' c' := by
  by_cases hc : c = 0
  · refine ⟨r, rows, a, b, c, S, x, ?_, R⟩
    subst hc
    simp [ladBody, forOf, nthCs, d__law_ladder, ix_ref R.hm]
  · have hc' : (0 : Int) < (c : Int) := by omega
    have hlr : l ≠ r := by have := R.lr; omega
    have hmr : m ≠ r := by have := R.lr; omega
    have hci : (c : Int) - 1 = ((c - 1 : Nat) : Int) := by omega
    have s1 : setIxR m 0 (.int ((c - 1 : Nat) : Int)) S = some (S.set m (.lst [.int ((c - 1 : Nat) : Int)])) := by
      simp only [setIxR, R.hm]
      rfl
    have q1 : (S.set m (.lst [.int ((c - 1 : Nat) : Int)]))[l]? = some (pu a b) := by rw [List.getElem?_set_ne (fun q => hlm q.symm)]; exact R.hl
    have q2 : (S.set m (.lst [.int ((c - 1 : Nat) : Int)]))[m]? = some (.lst [.int ((c - 1 : Nat) : Int)]) := set_got R.hm _
    have q3 : (S.set m (.lst [.int ((c - 1 : Nat) : Int)]))[r]? = some (.lst (rows.map pr)) := by rw [List.getElem?_set_ne hmr]; exact R.hr
    obtain ⟨L, c1, a1, b1, S2, e1, d, p1, g1, g2, f⟩ := turn_exp (P := P) (k + 2) l m u hu hlm hT _ a b (c - 1) (by have := R.sz; omega) q1 R.hp q2 r t y
    have g3 : S2[r]? = some (.lst (rows.map pr)) := fr_ne f q3 (by simp; omega)
    have hsz := R.sz
    have hln := rsz_len rows
    have hL := d.dep
    have C := turn_comp (P := P) (k + 2) l m u S2 r rows g3 (fun p hp => by have := R.rd p hp; omega) (by omega) L (by omega) t y
    obtain ⟨v, a2, b2, hv, p2, e2⟩ := many_run (P := P) k S2 h1 h2 g1 p1
    have hsz2 := rsz_filter (fun q => !decide (q.1 = L)) rows
    have hln2 := rsz_len (rows.filter fun q => !decide (q.1 = L))
    have hdz := d.siz
    have A : binR (S2.set l (pu a2 b2)) .add (.t (.lst ((rows.filter fun q => !decide (q.1 = L)).map pr))) (.t (.lst [.tup [L.v, .int v]])) = some (.t (.lst (((rows.filter fun q => !decide (q.1 = L)) ++ [(L, v)]).map pr))) := by
      have hll : ((rows.filter fun q => !decide (q.1 = L)).map pr).length + [Val.tup [L.v, .int v]].length ≤ sizeLine := le_line (by simp only [List.length_map, List.length_cons, List.length_nil]; omega)
      simp only [binR, addR, lstW, if_pos hll]
      simp [pr, Lad.v]
    have sx : evS (run P (k + 2)) (nthCs (thenOf (nthCs ladBody 0)) 2) = evS (run P (k + 2)) (.ite (.cmp .gt (.var 1) (.cst (.int 1))) (.cons (.set 5 (.call "_law_ladder" (.cons (.var 0) (.cons (.bin .sub (.var 1) (.cst (.int 1))) (.cons (.var 2) .nil))))) .nil) .nil) := rfl
    rw [sx] at e1
    have f3 : Fr [l, m] S (S2.set l (pu a2 b2)) := ((Fr.set S _ (by simp)).trans f).trans (Fr.set S2 _ (by simp))
    refine ⟨(S2.set l (pu a2 b2)).length, (rows.filter fun q => !decide (q.1 = L)) ++ [(L, v)], a2, b2, c1, S2.set l (pu a2 b2) ++ [.lst (((rows.filter fun q => !decide (q.1 = L)) ++ [(L, v)]).map pr)], some L.v, ?_, ?_⟩
    · have hb : ladBody = .cons (.ite (.cmp .gt (.ix (.var 2) (.cst (.int 0))) (.cst (.int 0))) (.cons (.setIx (.var 2) (.cst (.int 0)) (.bin .sub (.ix (.var 2) (.cst (.int 0))) (.cst (.int 1)))) (.cons (.set 5 (.tup .nil)) (.cons (.ite (.cmp .gt (.var 1) (.cst (.int 1))) (.cons (.set 5 (.call "_law_ladder" (.cons (.var 0) (.cons (.bin .sub (.var 1) (.cst (.int 1))) (.cons (.var 2) .nil))))) .nil) .nil) (.cons (.set 3 (.bin .add (.comp [6] (.n 6) (.e (.var 3)) (.some (.cmp .ne (.ix (.var 6) (.cst (.int 0))) (.var 5))) (.var 6)) (.lst (.cons (.tup (.cons (.var 5) (.cons (.call "_law_many" (.cons (.var 0) .nil)) .nil))) .nil)))) .nil)))) .nil) .nil := rfl
      have W : evB (run P (k + 2)) (.cons (.set 3 (.bin .add (.comp [6] (.n 6) (.e (.var 3)) (.some (.cmp .ne (.ix (.var 6) (.cst (.int 0))) (.var 5))) (.var 6)) (.lst (.cons (.tup (.cons (.var 5) (.cons (.call "_law_many" (.cons (.var 0) .nil)) .nil))) .nil)))) .nil) [some (.ref l), some (.int u), some (.ref m), some (.ref r), t, some L.v, y] S2 = .ok .nx [some (.ref l), some (.int u), some (.ref m), some (.ref (S2.set l (pu a2 b2)).length), t, some L.v, y] (S2.set l (pu a2 b2) ++ [.lst (((rows.filter fun q => !decide (q.1 = L)) ++ [(L, v)]).map pr)]) := by
        have V : evE (run P (k + 2)) (.lst (.cons (.tup (.cons (.var 5) (.cons (.call "_law_many" (.cons (.var 0) .nil)) .nil))) .nil)) [some (.ref l), some (.int u), some (.ref m), some (.ref r), t, some L.v, y] S2 = .ok (.t (.lst [.tup [L.v, .int v]])) (S2.set l (pu a2 b2)) := by
          simp [e2]
        rw [evB_cons, evS_set, evE_bin, C, bind_ok, V, bind_ok, A]
        simp only [of_some, st_ok, lay_t, sbind_nx, evB_nil, List.set_cons_succ, List.set_cons_zero]
      rw [hb, evB_cons, evS_ite]
      have c1' : evT (run P (k + 2)) (.cmp .gt (.ix (.var 2) (.cst (.int 0))) (.cst (.int 0))) [some (.ref l), some (.int u), some (.ref m), some (.ref r), t, x, y] S = .ok true S := by
        have hc0 : 0 < c := by omega
        simp [ix_ref R.hm, hc0]
      rw [c1', st_ok, if_pos rfl, evB_cons]
      have c2' : evS (run P (k + 2)) (.setIx (.var 2) (.cst (.int 0)) (.bin .sub (.ix (.var 2) (.cst (.int 0))) (.cst (.int 1)))) [some (.ref l), some (.int u), some (.ref m), some (.ref r), t, x, y] S = .ok .nx [some (.ref l), some (.int u), some (.ref m), some (.ref r), t, x, y] (S.set m (.lst [.int ((c - 1 : Nat) : Int)])) := by
        simp [ix_ref R.hm, hci, s1]
      rw [c2', sbind_nx, evB_cons]
      have c3' : evS (run P (k + 2)) (.set 5 (.tup .nil)) [some (.ref l), some (.int u), some (.ref m), some (.ref r), t, x, y] (S.set m (.lst [.int ((c - 1 : Nat) : Int)])) = .ok .nx [some (.ref l), some (.int u), some (.ref m), some (.ref r), t, some (.tup []), y] (S.set m (.lst [.int ((c - 1 : Nat) : Int)])) := by simp
      rw [c3', sbind_nx, evB_cons, e1, sbind_nx, W, sbind_nx, evB_nil]
    · have hS2l : (S2.set l (pu a2 b2)).length = S2.length := by simp
      have hf := R.fr.trans f3
      refine ⟨p2, ?_, ?_, got_end _ _, hf.le, hf.trans (Fr.app _ _), ?_, ?_, ?_, ?_, ?_⟩
      · rw [List.getElem?_append_left (by rw [hS2l]; exact got_lt g1)]
        exact set_got g1 _
      · rw [List.getElem?_append_left (by rw [hS2l]; exact got_lt g2), List.getElem?_set_ne hlm]
        exact g2
      · refine List.pairwise_append.mpr ⟨R.dis.sublist List.filter_sublist, List.pairwise_singleton _ _, ?_⟩
        intro p hp q hq
        rw [List.mem_singleton] at hq
        subst hq
        have := (List.mem_filter.mp hp).2
        simpa using this
      · intro p hp
        rcases List.mem_append.mp hp with hp | hp
        · exact R.rok p (List.mem_filter.mp hp).1
        · rw [List.mem_singleton] at hp
          subst hp
          exact ⟨d.ok, hv.1⟩
      · intro p hp
        rcases List.mem_append.mp hp with hp | hp
        · exact R.rb p (List.mem_filter.mp hp).1
        · rw [List.mem_singleton] at hp
          subst hp
          exact ⟨d.bnd, hv.2⟩
      · intro p hp
        rcases List.mem_append.mp hp with hp | hp
        · exact R.rd p (List.mem_filter.mp hp).1
        · rw [List.mem_singleton] at hp
          subst hp
          show L.dep + 1 ≤ u
          omega
      · rw [rsz_append]
        simp only [rsz]
        omega
theorem turns_run (k l m u c0 : Nat) (hu : 1 ≤ u) (hu' : u ≤ 20) (hc0 : c0 ≤ 1000) (hlm : l ≠ m) (h1 : P "_law_draw" = some d__law_draw) (h2 : P "_law_many" = some d__law_many) (hT : 1 < u → LadSp (run P (k + 2)) l m (u - 1)) (S0 : Sto) (hl0 : l < S0.length) (hm0 : m < S0.length) :
    ∀ (xs : List Val) (S : Sto) (a b : Int) (c r : Nat) (rows : List Row) (t x y : Option Val), Rs u c0 S0 S l m r rows a b c →
    ∃ (r' : Nat) (rows' : List Row) (a' b' : Int) (c' : Nat) (S' : Sto) (t' x' : Option Val), forL (evB (run P (k + 2)) ladBody) (.n 4) [] xs [some (.ref l), some (.int u), some (.ref m), some (.ref r), t, x, y] S = .ok .nx [some (.ref l), some (.int u), some (.ref m), some (.ref r'), t', x', y] S' ∧ Rs u c0 S0 S' l m r' rows' a' b' c'
  | [], S, a, b, c, r, rows, t, x, y, R => ⟨r, rows, a, b, c, S, t, x, by simp [forL], R⟩
  | z :: xs, S, a, b, c, r, rows, t, x, y, R => by
    obtain ⟨r1, rows1, a1, b1, c1, S1, x1, e1, R1⟩ := turn_run (P := P) k l m u c0 hu hu' hc0 hlm h1 h2 hT S0 S a b c r rows hl0 hm0 R (some z) x y
    obtain ⟨r2, rows2, a2, b2, c2, S2, t2, x2, e2, R2⟩ := turns_run k l m u c0 hu hu' hc0 hlm h1 h2 hT S0 hl0 hm0 xs S1 a1 b1 c1 r1 rows1 (some z) x1 y R1
    refine ⟨r2, rows2, a2, b2, c2, S2, t2, x2, ?_, R2⟩
    simp only [forL, guardS_nil', asgT_n, List.set_cons_succ, List.set_cons_zero, e1, e2]
theorem many_turns (k : Nat) (h1 : P "_law_draw" = some d__law_draw) (S : Sto) (l : Nat) (a b : Int) (hl : S[l]? = some (pu a b)) (hp : PU a b) (env : Env) (he : env[0]? = some (some (.ref l))) :
    ∃ (n : Nat) (a' b' : Int), PU a' b' ∧ evI (run P (k + 1)) (.rg1 (.call "_law_draw" (.cons (.var 0) (.cons (.ix (.lst (.cons (.cst (.int 3)) (.cons (.cst (.int 4)) (.cons (.cst (.int 5)) (.cons (.cst (.int 9)) .nil))))) (.call "_law_draw" (.cons (.var 0) (.cons (.cst (.int 4)) .nil)))) .nil)))) env S = .ok ⟨rngL 0 n, []⟩ (S.set l (pu a' b')) := by
  obtain ⟨v, a1, b1, hv, hp1, e1⟩ := draw_run (P := P) k S h1 hl hp 4 (by decide) (by decide)
  have hl1 := set_got hl (pu a1 b1)
  have D : ∀ q : Int, 0 < q → q < 1073741824 → ∃ (n : Nat) (a' b' : Int), PU a' b' ∧ n ≤ q ∧ run P (k + 1) "_law_draw" [.ref l, .int q] (S.set l (pu a1 b1)) = .ok (.v (.int n)) (S.set l (pu a' b')) := by
    intro q h3 h4
    obtain ⟨w, a2, b2, hw, hp2, e2⟩ := draw_run (P := P) k (S.set l (pu a1 b1)) h1 hl1 hp1 q h3 h4
    refine ⟨w.toNat, a2, b2, hp2, by omega, ?_⟩
    rw [e2, List.set_set, Int.toNat_of_nonneg hw.1]
  have Q : ∀ (q : Int), 0 < q → q ≤ 100 → L2.atI [Val.int 3, .int 4, .int 5, .int 9] v = some (.int q) → ∃ (n : Nat) (a' b' : Int), PU a' b' ∧ evI (run P (k + 1)) (.rg1 (.call "_law_draw" (.cons (.var 0) (.cons (.ix (.lst (.cons (.cst (.int 3)) (.cons (.cst (.int 4)) (.cons (.cst (.int 5)) (.cons (.cst (.int 9)) .nil))))) (.call "_law_draw" (.cons (.var 0) (.cons (.cst (.int 4)) .nil)))) .nil)))) env S = .ok ⟨rngL 0 n, []⟩ (S.set l (pu a' b')) := by
    intro q h3 h4 h5
    obtain ⟨n, a', b', h6, h7, h8⟩ := D q h3 (by omega)
    refine ⟨n, a', b', h6, ?_⟩
    simp [he, e1, h5, h8, range_0 n (by omega)]
  have hv' : v = 0 ∨ v = 1 ∨ v = 2 ∨ v = 3 := by omega
  rcases hv' with rfl | rfl | rfl | rfl
  · exact Q 3 (by decide) (by decide) rfl
  · exact Q 4 (by decide) (by decide) rfl
  · exact Q 5 (by decide) (by decide) rfl
  · exact Q 9 (by decide) (by decide) rfl
/-- the draw of a ladder -/
theorem drawn_run (h1 : P "_law_draw" = some d__law_draw) (h2 : P "_law_many" = some d__law_many) (h3 : P "_law_ladder" = some d__law_ladder) {l m : Nat} (hlm : l ≠ m) : ∀ (u k : Nat), 1 ≤ u → u ≤ 20 → u + 2 ≤ k → ∀ (S : Sto) (a b : Int) (c : Nat), c ≤ 1000 → S[l]? = some (pu a b) → PU a b → S[m]? = some (.lst [.int c]) → ∃ (L : Lad) (c' : Nat) (a' b' : Int) (S' : Sto), run P k "_law_ladder" [.ref l, .int u, .ref m] S = .ok (.v L.v) S' ∧ Drw L u c c' ∧ PU a' b' ∧ S'[l]? = some (pu a' b') ∧ S'[m]? = some (.lst [.int c']) ∧ Fr [l, m] S S' := by
  intro u
  induction u with
  | zero => intro k hu; omega
  | succ u ih =>
    intro k hu hu' hk S a b c hc hl hp hm
    match k, hk with
    | k + 3, hk =>
      have hT : 1 < u + 1 → LadSp (run P (k + 2)) l m (u + 1 - 1) := by
        intro h S a b c hc hl hp hm
        exact ih (k + 2) (by omega) (by omega) (by omega) S a b c hc hl hp hm
      have hl0 := got_lt hl
      have hm0 := got_lt hm
      have hl1 : (S ++ [Ob.lst []])[l]? = some (pu a b) := by rw [List.getElem?_append_left hl0]; exact hl
      have hm1 : (S ++ [Ob.lst []])[m]? = some (.lst [.int c]) := by rw [List.getElem?_append_left hm0]; exact hm
      obtain ⟨n, a1, b1, hp1, e1⟩ := many_turns (P := P) (k + 1) h1 (S ++ [Ob.lst []]) l a b hl1 hp [some (.ref l), some (.int ((u + 1 : Nat) : Int)), some (.ref m), some (.ref S.length), none, none, none] rfl
      have R0 : Rs (u + 1) c S ((S ++ [Ob.lst []]).set l (pu a1 b1)) l m S.length [] a1 b1 c := by
        refine ⟨hp1, set_got hl1 _, ?_, ?_, Nat.le_refl _, (Fr.app S _).trans (Fr.set _ _ (by simp)), List.Pairwise.nil, by simp, by simp, by simp, by simp [rsz]⟩
        · rw [List.getElem?_set_ne hlm]; exact hm1
        · rw [List.getElem?_set_ne (by omega)]; exact got_end _ _
      obtain ⟨r, rows, a2, b2, c2, S2, t2, x2, e2, R⟩ := turns_run (P := P) k l m (u + 1) c hu hu' hc hlm h1 h2 hT S hl0 hm0 (rngL 0 n) _ a1 b1 c S.length [] none none none R0
      have hsz := R.sz
      have hln := rsz_len rows
      have so := sortOk_rows rows (fun p hp => by have := R.rd p hp; omega) (by omega)
      have hperm := srt_perm rows
      have hmem : ∀ p ∈ (srt rows).reverse, p ∈ rows := fun p hp => hperm.mem_iff.mp (List.mem_reverse.mp hp)
      refine ⟨toLad (srt rows).reverse, c2, a2, b2, S2, ?_, ⟨srt_ok rows R.dis R.rok, bnd_toLad _ _ fun p hp => R.rb p (hmem p hp), dep_toLad u _ fun p hp => by have := R.rd p (hmem p hp); omega, ?_⟩, R.hp, R.hl, R.hm, R.fr⟩
      · rw [run_ok h3 _ _ _ rfl]
        have hb : d__law_ladder.body = .cons (.set 3 (.lst .nil)) (.cons (.for (.n 4) (.rg1 (.call "_law_draw" (.cons (.var 0) (.cons (.ix (.lst (.cons (.cst (.int 3)) (.cons (.cst (.int 4)) (.cons (.cst (.int 5)) (.cons (.cst (.int 9)) .nil))))) (.call "_law_draw" (.cons (.var 0) (.cons (.cst (.int 4)) .nil)))) .nil)))) ladBody) (.cons (.ret (.some (.blt .tuple (.cons (.rev (.blt .sorted (.cons (.var 3) .nil))) .nil)))) .nil)) := rfl
        have hst : startE d__law_ladder.n [.ref l, .int ((u + 1 : Nat) : Int), .ref m] = [some (.ref l), some (.int ((u + 1 : Nat) : Int)), some (.ref m), none, none, none, none] := rfl
        rw [hb, hst, evB_cons]
        have c1 : evS (run P (k + 2)) (.set 3 (.lst .nil)) [some (.ref l), some (.int ((u + 1 : Nat) : Int)), some (.ref m), none, none, none, none] S = .ok .nx [some (.ref l), some (.int ((u + 1 : Nat) : Int)), some (.ref m), some (.ref S.length), none, none, none] (S ++ [.lst []]) := by simp
        rw [c1, sbind_nx, evB_cons, evS_for, e1, st_ok, e2, sbind_nx, evB_cons]
        have sr : blt1 S2 .sorted (.v (.ref r)) = some (.t (.lst ((srt rows).map pr))) := by
          simp only [blt1, seqOf, lstOf, lstW, R.hr, Option.bind_some, so, if_true, sortV_rows]
        have rv : revR S2 (.t (.lst ((srt rows).map pr))) = some (.t (.lst ((srt rows).reverse.map pr))) := by
          simp [revR, lstOf, lstW]
        simp [sr, rv, Lad.v, enc_toLad]
      · rw [siz_toLad, rsz_perm (List.reverse_perm _), rsz_perm hperm]
        exact hsz
end
end Fe

/-! LadF: a ladder drawn within a law -/
namespace Fe
open PySem
/-- the ladder of a law: its height out of a list, its parts by a list of one -/
theorem lad_call {P : Str → Option Fd} (k : Nat) (h1 : P "_law_draw" = some d__law_draw) (h2 : P "_law_many" = some d__law_many) (h3 : P "_law_ladder" = some d__law_ladder) (i : Nat) (us : List Val) (es : Es) (q : Int) (c : Nat) (ci : Int) (hci : ci = (c : Int)) (hc : c ≤ 1000) (env : Env) (S : Sto) (l : Nat) (a b : Int) (hi : env[i]? = some (some (.ref l))) (hl : S[l]? = some (pu a b)) (hp : PU a b) (hq : 0 < q) (hq' : q < 1073741824)
    (he : ∀ S, evE (run P (k + 30)) (.lst es) env S = .ok (.t (.lst us)) S) (hu : ∀ v : Int, 0 ≤ v → v < q → ∃ u : Nat, 1 ≤ u ∧ u ≤ 20 ∧ L2.atI us v = some (.int u)) :
    ∃ (L : Lad) (c' : Nat) (a' b' : Int) (S' : Sto), evE (run P (k + 30)) (.call "_law_ladder" (.cons (.var i) (.cons (.ix (.lst es) (.call "_law_draw" (.cons (.var i) (.cons (.cst (.int q)) .nil)))) (.cons (.lst (.cons (.cst (.int ci)) .nil)) .nil)))) env S = .ok (.v L.v) S' ∧ Drw L 20 c c' ∧ PU a' b' ∧ S'[l]? = some (pu a' b') ∧ Fr [l] S S' := by
  subst hci
  obtain ⟨v, a1, b1, hv, hp1, e1⟩ := draw_run (P := P) (k + 29) S h1 hl hp q hq hq'
  obtain ⟨u, hu1, hu2, hu3⟩ := hu v hv.1 hv.2
  have hl0 := got_lt hl
  have hl1 := set_got hl (pu a1 b1)
  have hl2 : (S.set l (pu a1 b1) ++ [Ob.lst [.int c]])[l]? = some (pu a1 b1) := by rw [List.getElem?_append_left (by simpa using hl0)]; exact hl1
  have hm2 : (S.set l (pu a1 b1) ++ [Ob.lst [.int c]])[S.length]? = some (.lst [.int c]) := by
    have := got_end (S.set l (pu a1 b1)) (Ob.lst [.int c])
    rwa [List.length_set] at this
  obtain ⟨L, c', a2, b2, S2, e2, d, hp2, g1, g2, f⟩ := drawn_run (P := P) h1 h2 h3 (l := l) (m := S.length) (by omega) u (k + 30) hu1 hu2 (by omega) _ a1 b1 c hc hl2 hp1 hm2
  have hle : S.length ≤ S2.length := by
    have := f.le
    simp at this
    omega
  obtain ⟨S3, ec, f1, f2⟩ := cut_fr L.v S.length S2 rfl hle
  refine ⟨L, c', a2, b2, S3, ?_, ⟨d.ok, d.bnd, by have := d.dep; omega, d.siz⟩, hp2, by rw [f2 l hl0, g1], ⟨f1, ?_⟩⟩
  · simp only [evE_call, evA_cons, evE_var, hi, bind_ok, lay_v, evE_ix, he, evA_nil, evE_cst, e1, cutS_int, ix_tmp, hu3, of_some, evE_lst, lay_t, List.length_set, e2, ec]
  · intro j hj hn
    rw [f2 j hj, f.eq j (by simp; omega) (by simp at hn; simp; omega), List.getElem?_append_left (by simpa using hj), List.getElem?_set_ne (by simp at hn; omega)]
end Fe

/-! LadG: rows of a ladder; a ladder near another -/
namespace Fe
open PySem
def Lad.rows : Lad → List Row
  | .nil => []
  | .cons e n r => (e, n) :: rows r
theorem toLad_rows : ∀ L : Lad, toLad L.rows = L
  | .nil => rfl
  | .cons e n r => by simp [Lad.rows, toLad, toLad_rows r]
theorem rows_toLad : ∀ rs : List Row, (toLad rs).rows = rs
  | [] => rfl
  | p :: r => by simp [Lad.rows, toLad, rows_toLad r]
theorem enc_rows (L : Lad) : L.enc = L.rows.map pr := by
  have := enc_toLad L.rows
  rwa [toLad_rows] at this
theorem rsz_rows (L : Lad) : rsz L.rows = L.siz := by
  have := siz_toLad L.rows
  rw [toLad_rows] at this
  exact this.symm
theorem len_rows : ∀ L : Lad, L.rows.length = L.len
  | .nil => rfl
  | .cons e n r => by simp [Lad.rows, Lad.len, len_rows r]
structure Rok (rs : List Row) : Prop where
  each : ∀ p ∈ rs, p.1.ok = true ∧ 1 ≤ p.2
  fall : rs.Pairwise fun a b => Lad.less b.1 a.1 = true
theorem pairs_rows : ∀ L : Lad, L.pairsOk = true → ∀ p ∈ L.rows, p.1.ok = true ∧ 1 ≤ p.2
  | .nil, _ => by simp [Lad.rows]
  | .cons e n r, h => by
    simp only [Lad.pairsOk, Bool.and_eq_true, decide_eq_true_eq] at h
    intro p hp
    rcases List.mem_cons.mp hp with rfl | hp
    · exact ⟨by simp [Lad.ok, h.1.1.1, h.1.1.2], h.1.2⟩
    · exact pairs_rows r h.2 p hp
theorem falls_rows : ∀ L : Lad, L.falls = true → L.rows.Pairwise fun a b => Lad.less b.1 a.1 = true
  | .nil, _ => List.Pairwise.nil
  | .cons e n .nil, _ => by simp [Lad.rows]
  | .cons e n (.cons e' n' r'), h => by
    simp only [Lad.falls, Bool.and_eq_true] at h
    have ih := falls_rows (.cons e' n' r') h.2
    refine List.pairwise_cons.mpr ⟨?_, ih⟩
    intro p hp
    rcases List.mem_cons.mp hp with rfl | hp
    · exact h.1
    · exact Lad.less_trans _ _ _ ((List.pairwise_cons.mp ih).1 p hp) h.1
theorem rok_of {L : Lad} (h : L.ok = true) : Rok L.rows := by
  simp only [Lad.ok, Bool.and_eq_true] at h
  exact ⟨pairs_rows L h.1, falls_rows L h.2⟩
theorem ok_of {rs : List Row} (h : Rok rs) : (toLad rs).ok = true := by
  simp only [Lad.ok, Bool.and_eq_true]
  exact ⟨pairs_toLad _ h.each, falls_toLad _ h.fall⟩
/-- a ladder of some height and size, its numbers bounded -/
structure Gl (B : Int) (L : Lad) (d z : Nat) : Prop where
  ok : L.ok = true
  bnd : L.bnd B = true
  dep : L.dep ≤ d
  siz : L.siz ≤ z
theorem Drw.gl {L : Lad} {u c c' : Nat} (h : Drw L u c c') : Gl big L u c := ⟨h.ok, h.bnd, h.dep, by have := h.siz; omega⟩
theorem Gl.up {B : Int} {L : Lad} {d z d' z' : Nat} (h : Gl B L d z) (h1 : d ≤ d') (h2 : z ≤ z') : Gl B L d' z' := ⟨h.ok, h.bnd, Nat.le_trans h.dep h1, Nat.le_trans h.siz h2⟩
theorem bnd_rows (B : Int) : ∀ L : Lad, L.bnd B = true → ∀ p ∈ L.rows, p.1.bnd B = true ∧ p.2 ≤ B
  | .nil, _ => by simp [Lad.rows]
  | .cons e n r, h => by
    simp only [Lad.bnd, Bool.and_eq_true, decide_eq_true_eq] at h
    intro p hp
    rcases List.mem_cons.mp hp with rfl | hp
    · exact ⟨h.1.1, h.1.2⟩
    · exact bnd_rows B r h.2 p hp
theorem dep_rows (d : Nat) : ∀ L : Lad, L.dep ≤ d → ∀ p ∈ L.rows, p.1.dep + 1 ≤ d
  | .nil, _ => by simp [Lad.rows]
  | .cons e n r, h => by
    simp only [Lad.dep] at h
    intro p hp
    rcases List.mem_cons.mp hp with rfl | hp
    · show e.dep + 1 ≤ d; omega
    · exact dep_rows d r (by omega) p hp
/-- the rows of such a ladder -/
structure Gr (B : Int) (rs : List Row) (d z : Nat) : Prop where
  ok : Rok rs
  bnd : ∀ p ∈ rs, p.1.bnd B = true ∧ p.2 ≤ B
  dep : ∀ p ∈ rs, p.1.dep + 1 ≤ d
  siz : rsz rs ≤ z
theorem Gl.gr {B : Int} {L : Lad} {d z : Nat} (h : Gl B L d z) : Gr B L.rows d z := ⟨rok_of h.ok, bnd_rows B L h.bnd, dep_rows d L h.dep, by rw [rsz_rows]; exact h.siz⟩
theorem Gr.gl {B : Int} {rs : List Row} {d z : Nat} (h : Gr B rs d z) : Gl B (toLad rs) d z := ⟨ok_of h.ok, bnd_toLad B rs h.bnd, by
  cases rs with
  | nil => simp [toLad, Lad.dep]
  | cons p r =>
    have hp := h.dep p (by simp)
    have := dep_toLad (d - 1) (p :: r) fun q hq => by have := h.dep q hq; omega
    omega, by rw [siz_toLad]; exact h.siz⟩
theorem rsz_sub {a b : List Row} (h : a.Sublist b) : rsz a ≤ rsz b := by
  induction h with
  | slnil => exact Nat.le_refl _
  | cons x _ ih => simp only [rsz]; omega
  | cons_cons x _ ih => simp only [rsz]; omega
theorem Gr.sub {B : Int} {a b : List Row} {d z : Nat} (h : Gr B b d z) (s : a.Sublist b) : Gr B a d z := ⟨⟨fun p hp => h.ok.each p (s.subset hp), h.ok.fall.sublist s⟩, fun p hp => h.bnd p (s.subset hp), fun p hp => h.dep p (s.subset hp), Nat.le_trans (rsz_sub s) h.siz⟩
/-- rows ahead, rows behind -/
theorem Gr.app {B : Int} {a b : List Row} {d z z' : Nat} (h : Gr B a d z) (h' : Gr B b d z') (hl : ∀ p ∈ a, ∀ q ∈ b, Lad.less q.1 p.1 = true) : Gr B (a ++ b) d (z + z') := by
  refine ⟨⟨?_, List.pairwise_append.mpr ⟨h.ok.fall, h'.ok.fall, hl⟩⟩, ?_, ?_, ?_⟩
  · intro p hp
    rcases List.mem_append.mp hp with hp | hp
    · exact h.ok.each p hp
    · exact h'.ok.each p hp
  · intro p hp
    rcases List.mem_append.mp hp with hp | hp
    · exact h.bnd p hp
    · exact h'.bnd p hp
  · intro p hp
    rcases List.mem_append.mp hp with hp | hp
    · exact h.dep p hp
    · exact h'.dep p hp
  · rw [rsz_append]
    have := h.siz
    have := h'.siz
    omega
theorem v_rows (L : Lad) : L.v = .tup (L.rows.map pr) := by rw [Lad.v, enc_rows]
theorem v_toLad (rs : List Row) : (toLad rs).v = .tup (rs.map pr) := by rw [Lad.v, enc_toLad]
/-! ### pieces of tuples -/
theorem sl_take (S : Sto) (xs : List Val) (k : Nat) : slR S (.v (.tup xs)) none (some (k : Int)) = some (.v (.tup (xs.take k))) := by
  simp only [slR, cutL, HT.sIx_none, HT.sIx_nat, List.drop_zero, Nat.sub_zero]
  rw [← List.take_eq_take_min]
theorem sl_drop (S : Sto) (xs : List Val) (k : Nat) : slR S (.v (.tup xs)) (some (k : Int)) none = some (.v (.tup (xs.drop k))) := by
  simp only [slR, cutL, HT.sIx_none, HT.sIx_nat]
  have e : (xs.drop (min k xs.length)).take (xs.length - min k xs.length) = xs.drop k := by
    rw [List.take_of_length_le (by simp)]
    rcases Nat.le_total k xs.length with h | h
    · rw [Nat.min_eq_left h]
    · rw [Nat.min_eq_right h, List.drop_length, List.drop_of_length_le h]
  rw [e]
theorem add_tup (S : Sto) (a b : List Val) (h : a.length + b.length ≤ 16000000) : binR S .add (.v (.tup a)) (.v (.tup b)) = some (.v (.tup (a ++ b))) := by
  have := le_line h
  simp only [binR, addR, if_pos this]
theorem add_lst (S : Sto) (a b : List Val) (h : a.length + b.length ≤ 16000000) : binR S .add (.t (.lst a)) (.t (.lst b)) = some (.t (.lst (a ++ b))) := by
  have := le_line h
  simp only [binR, addR, lstW, if_pos this]
/-- a comprehension that keeps some items of a tuple -/
theorem comp_keep (T : Fns) (own : List Nat) (j : Nat) (it : It) (c : E) (env : Env) (S : Sto) {α : Type} (f : α → Val) (p : α → Bool) (xs : List α) (hi : evI T it env S = .ok ⟨xs.map f, []⟩ S) (hl : xs.length ≤ 16000000) (hj : ∀ x, ((wipeE env own).set j (some x))[j]? = some (some x)) (hc : ∀ x ∈ xs, evT T c ((wipeE env own).set j (some (f x))) S = .ok (p x) S) : evE T (.comp own (.n j) it (.some c) (.var j)) env S = .ok (.t (.lst ((xs.filter p).map f))) S := by
  have C := comp_filter (evC T (.some c)) (evE T (.var j)) (.n j) (wipeE env own) S [] trivial f p xs [] (by
    intro x hx
    refine ⟨_, rfl, ?_, ?_⟩
    · rw [evC_some]; exact hc x hx
    · simp [hj])
  have hl' : (xs.map f).length ≤ sizeLine := le_line (by rw [List.length_map]; exact hl)
  rw [evE_comp, hi]
  simp only [bind_ok, if_pos hl', C, nox_ok, List.nil_append]
end Fe
namespace Fe
open PySem
def d__law_near : Fd := ⟨3, 6, (.cons (.set 3 (.call "_law_draw" (.cons (.var 0) (.cons (.bin .add (.blt .len (.cons (.var 1) .nil)) (.cst (.int 1))) .nil)))) (.cons (.ite (.and (.cmp .lt (.var 3) (.blt .len (.cons (.var 1) .nil))) (.cmp .eq (.call "_law_draw" (.cons (.var 0) (.cons (.cst (.int 2)) .nil))) (.cst (.int 1)))) (.cons (.set 4 (.tup (.cons (.ix (.ix (.var 1) (.var 3)) (.cst (.int 0))) (.cons (.call "_law_many" (.cons (.var 0) .nil)) .nil)))) (.cons (.ret (.some (.bin .add (.bin .add (.sl (.var 1) .none (.some (.var 3))) (.tup (.cons (.var 4) .nil))) (.blt .tuple (.cons (.comp [5] (.n 5) (.e (.var 2)) (.some (.cmp .lt (.ix (.var 5) (.cst (.int 0))) (.ix (.var 4) (.cst (.int 0))))) (.var 5)) .nil))))) .nil)) .nil) (.cons (.ret (.some (.bin .add (.sl (.var 1) .none (.some (.var 3))) (.blt .tuple (.cons (.comp [5] (.n 5) (.e (.var 2)) (.some (.or (.cmp .eq (.var 3) (.cst (.int 0))) (.cmp .lt (.ix (.var 5) (.cst (.int 0))) (.ix (.ix (.var 1) (.bin .sub (.var 3) (.cst (.int 1)))) (.cst (.int 0)))))) (.var 5)) .nil))))) .nil)))⟩
theorem take_last {rs : List Row} (hf : rs.Pairwise fun a b => Lad.less b.1 a.1 = true) {j : Nat} {p x : Row} (hp : rs[j]? = some p) (hx : x ∈ rs.take (j + 1)) : x = p ∨ Lad.less p.1 x.1 = true := by
  rw [List.take_succ, hp] at hx
  rcases List.mem_append.mp hx with hx | hx
  · right
    have hj := got_lt hp
    have ht : (rs.take (j + 1)).Pairwise fun a b => Lad.less b.1 a.1 = true := hf.sublist (List.take_sublist _ _)
    rw [List.take_succ, hp] at ht
    exact (List.pairwise_append.mp ht).2.2 x hx p (by simp)
  · left
    simpa using hx
theorem near_runB {P : Str → Option Fd} (B : Int) (hB : big ≤ B) (k : Nat) (h1 : P "_law_draw" = some d__law_draw) (h2 : P "_law_many" = some d__law_many) (h3 : P "_law_near" = some d__law_near) (S : Sto) {l : Nat} {a b : Int} (hS : S[l]? = some (pu a b)) (hp : PU a b) (L M : Lad) (d z z' : Nat) (hL : Gl B L d z) (hM : Gl B M d z') (hd : d ≤ 20) (hz : z ≤ 10000) (hz' : z' ≤ 10000) :
    ∃ (N : Lad) (a' b' : Int), Gl B N d (z + z') ∧ PU a' b' ∧ run P (k + 3) "_law_near" [.ref l, L.v, M.v] S = .ok (.v N.v) (S.set l (pu a' b')) := by
  have hlen : L.rows.length ≤ 10000 := by have := hL.siz; have := L.len_siz; rw [len_rows]; omega
  have hlenM : M.rows.length ≤ 10000 := by have := hM.siz; have := M.len_siz; rw [len_rows]; omega
  have hLe : (L.rows.map pr).length = L.rows.length := by simp
  obtain ⟨v, a1, b1, hv, hp1, e1⟩ := draw_run (P := P) (k + 1) S h1 hS hp ((L.rows.length : Int) + 1) (by omega) (by omega)
  obtain ⟨q, rfl⟩ : ∃ q : Nat, v = (q : Int) := ⟨v.toNat, by omega⟩
  have hS1 := set_got hS (pu a1 b1)
  have gL := hL.gr
  have gM := hM.gr
  have gt : Gr B (L.rows.take q) d z := gL.sub (List.take_sublist _ _)
  rw [v_rows L, v_rows M]
  /- what stands behind, by a bound -/
  have K : ∀ (p : Row → Bool), Gr B (M.rows.filter p) d z' := fun p => gM.sub List.filter_sublist
  have B2 : ∀ (S' : Sto) (a' b' : Int), PU a' b' → S' = S.set l (pu a' b') → (∀ (x4 : Option Val), ∃ N : Lad, Gl B N d (z + z') ∧ evB (run P (k + 2)) (.cons (.ret (.some (.bin .add (.sl (.var 1) .none (.some (.var 3))) (.blt .tuple (.cons (.comp [5] (.n 5) (.e (.var 2)) (.some (.or (.cmp .eq (.var 3) (.cst (.int 0))) (.cmp .lt (.ix (.var 5) (.cst (.int 0))) (.ix (.ix (.var 1) (.bin .sub (.var 3) (.cst (.int 1)))) (.cst (.int 0)))))) (.var 5)) .nil))))) .nil) [some (.ref l), some (.tup (L.rows.map pr)), some (.tup (M.rows.map pr)), some (.int q), x4, none] S' = .ok (.rt (.v N.v)) [some (.ref l), some (.tup (L.rows.map pr)), some (.tup (M.rows.map pr)), some (.int q), x4, none] S') := by
    intro S' a' b' hp' hs x4
    have sl := sl_take S' (L.rows.map pr) q
    have hlt : ((L.rows.map pr).take q).length ≤ 10000 := by simp only [List.length_take, List.length_map]; omega
    by_cases hq : q = 0
    · have C := comp_keep (run P (k + 2)) [5] 5 (.e (.var 2)) (.or (.cmp .eq (.var 3) (.cst (.int 0))) (.cmp .lt (.ix (.var 5) (.cst (.int 0))) (.ix (.ix (.var 1) (.bin .sub (.var 3) (.cst (.int 1)))) (.cst (.int 0))))) [some (.ref l), some (.tup (L.rows.map pr)), some (.tup (M.rows.map pr)), some (.int q), x4, none] S' pr (fun _ => true) M.rows (by simp) (by omega) (by simp) (by intro x hx; simp [hq])
      have A := add_tup S' ((L.rows.map pr).take q) ((M.rows.filter fun _ => true).map pr) (by
        have := List.length_filter_le (fun _ => true) M.rows
        rw [List.length_map]
        omega)
      refine ⟨toLad (L.rows.take q ++ M.rows.filter fun _ => true), (gt.app (K fun _ => true) (by simp [hq])).gl, ?_⟩
      rw [v_toLad, List.map_append, List.map_take]
      simp only [evB_cons, evS_ret, evE_bin, evE_sl, evE_var, List.getElem?_cons_zero, List.getElem?_cons_succ, bind_ok, evO_none, evO_some, sl, of_some, evE_blt, evR_cons, evR_nil, C, blt_one, tuple_tmp, A, st_ok, sbind_rt]
    · obtain ⟨p, hpq⟩ : ∃ p, L.rows[q - 1]? = some p := by
        have : q - 1 < L.rows.length := by omega
        exact ⟨_, List.getElem?_eq_getElem this⟩
      have at1 : L2.atI (L.rows.map pr) ((q : Int) - 1) = some (pr p) := by
        rw [show (q : Int) - 1 = ((q - 1 : Nat) : Int) by omega]
        exact L2.atI_nat (by simp [hpq])
      have hpm : p ∈ L.rows := List.mem_of_getElem? hpq
      have C := comp_keep (run P (k + 2)) [5] 5 (.e (.var 2)) (.or (.cmp .eq (.var 3) (.cst (.int 0))) (.cmp .lt (.ix (.var 5) (.cst (.int 0))) (.ix (.ix (.var 1) (.bin .sub (.var 3) (.cst (.int 1)))) (.cst (.int 0))))) [some (.ref l), some (.tup (L.rows.map pr)), some (.tup (M.rows.map pr)), some (.int q), x4, none] S' pr (fun x => Lad.less x.1 p.1) M.rows (by simp) (by omega) (by simp) (by
        intro x hx
        have lt := ltR_enc x.1 p.1 (by have := gM.dep x hx; omega)
        simp [hq, at1, pr, lt])
      have A := add_tup S' ((L.rows.map pr).take q) ((M.rows.filter fun x => Lad.less x.1 p.1).map pr) (by
        have := List.length_filter_le (fun x => Lad.less x.1 p.1) M.rows
        rw [List.length_map]
        omega)
      refine ⟨toLad (L.rows.take q ++ M.rows.filter fun x => Lad.less x.1 p.1), (gt.app (K fun x => Lad.less x.1 p.1) ?_).gl, ?_⟩
      · intro x hx y hy
        have hy2 := (List.mem_filter.mp hy).2
        have hc : x = p ∨ Lad.less p.1 x.1 = true := take_last gL.ok.fall hpq (by rwa [show q - 1 + 1 = q by omega])
        rcases hc with rfl | hc
        · exact hy2
        · exact Lad.less_trans _ _ _ hy2 hc
      · rw [v_toLad, List.map_append, List.map_take]
        simp only [evB_cons, evS_ret, evE_bin, evE_sl, evE_var, List.getElem?_cons_zero, List.getElem?_cons_succ, bind_ok, evO_none, evO_some, sl, of_some, evE_blt, evR_cons, evR_nil, C, blt_one, tuple_tmp, A, st_ok, sbind_rt]
  have hlen1 : (((L.rows.map pr).length : Nat) : Int) = (L.rows.length : Int) := by rw [hLe]
  have hst : startE d__law_near.n [.ref l, .tup (L.rows.map pr), .tup (M.rows.map pr)] = [some (.ref l), some (.tup (L.rows.map pr)), some (.tup (M.rows.map pr)), none, none, none] := rfl
  have hb : d__law_near.body = .cons (nthCs d__law_near.body 0) (.cons (nthCs d__law_near.body 1) (.cons (.ret (.some (.bin .add (.sl (.var 1) .none (.some (.var 3))) (.blt .tuple (.cons (.comp [5] (.n 5) (.e (.var 2)) (.some (.or (.cmp .eq (.var 3) (.cst (.int 0))) (.cmp .lt (.ix (.var 5) (.cst (.int 0))) (.ix (.ix (.var 1) (.bin .sub (.var 3) (.cst (.int 1)))) (.cst (.int 0)))))) (.var 5)) .nil))))) .nil)) := rfl
  have c0 : evS (run P (k + 2)) (nthCs d__law_near.body 0) [some (.ref l), some (.tup (L.rows.map pr)), some (.tup (M.rows.map pr)), none, none, none] S = .ok .nx [some (.ref l), some (.tup (L.rows.map pr)), some (.tup (M.rows.map pr)), some (.int q), none, none] (S.set l (pu a1 b1)) := by
    simp [nthCs, d__law_near, e1]
  by_cases hq : q < L.rows.length
  · obtain ⟨w, a2, b2, hw, hp2, e2⟩ := draw_run (P := P) (k + 1) (S.set l (pu a1 b1)) h1 hS1 hp1 2 (by decide) (by decide)
    rw [List.set_set] at e2
    have hqi : (q : Int) < (L.rows.length : Int) := by omega
    by_cases hw1 : w = 1
    · subst hw1
      have hS2 := set_got hS (pu a2 b2)
      obtain ⟨n, a3, b3, hn, hp3, e3⟩ := many_run (P := P) k (S.set l (pu a2 b2)) h1 h2 hS2 hp2
      rw [List.set_set] at e3
      have hpq : L.rows[q]? = some L.rows[q] := List.getElem?_eq_getElem hq
      generalize L.rows[q] = p at hpq
      have at1 : L2.atI (L.rows.map pr) (q : Int) = some (pr p) := L2.atI_nat (by simp [hpq])
      have hpm : p ∈ L.rows := List.mem_of_getElem? hpq
      have C := comp_keep (run P (k + 2)) [5] 5 (.e (.var 2)) (.cmp .lt (.ix (.var 5) (.cst (.int 0))) (.ix (.var 4) (.cst (.int 0)))) [some (.ref l), some (.tup (L.rows.map pr)), some (.tup (M.rows.map pr)), some (.int q), some (.tup [.tup p.1.enc, .int n]), none] (S.set l (pu a3 b3)) pr (fun x => Lad.less x.1 p.1) M.rows (by simp) (by omega) (by simp) (by
        intro x hx
        have lt := ltR_enc x.1 p.1 (by have := gM.dep x hx; omega)
        simp [pr, lt])
      have hlt : ((L.rows.map pr).take q).length ≤ 10000 := by simp only [List.length_take, List.length_map]; omega
      have A1 := add_tup (S.set l (pu a3 b3)) ((L.rows.map pr).take q) [.tup [.tup p.1.enc, .int n]] (by simp only [List.length_cons, List.length_nil]; omega)
      have A2 := add_tup (S.set l (pu a3 b3)) ((L.rows.map pr).take q ++ [.tup [.tup p.1.enc, .int n]]) ((M.rows.filter fun x => Lad.less x.1 p.1).map pr) (by
        have := List.length_filter_le (fun x => Lad.less x.1 p.1) M.rows
        simp only [List.length_append, List.length_cons, List.length_nil, List.length_map] at *
        omega)
      have sl := sl_take (S.set l (pu a3 b3)) (L.rows.map pr) q
      have g1 : Gr B (L.rows.take q ++ [(p.1, n)]) d z := by
        have g0 : Gr B (L.rows.take (q + 1)) d z := gL.sub (List.take_sublist _ _)
        have ht : L.rows.take (q + 1) = L.rows.take q ++ [p] := by rw [List.take_succ, hpq]; rfl
        rw [ht] at g0
        have hpp := gL.ok.each p hpm
        have hpb := gL.bnd p hpm
        have hpd := gL.dep p hpm
        refine ⟨⟨?_, ?_⟩, ?_, ?_, ?_⟩
        · intro x hx
          rcases List.mem_append.mp hx with hx | hx
          · exact g0.ok.each x (List.mem_append_left _ hx)
          · rw [List.mem_singleton] at hx; subst hx; exact ⟨hpp.1, hn.1⟩
        · have hf := List.pairwise_append.mp g0.ok.fall
          refine List.pairwise_append.mpr ⟨hf.1, List.pairwise_singleton _ _, ?_⟩
          intro x hx y hy
          rw [List.mem_singleton] at hy; subst hy
          exact hf.2.2 x hx p (by simp)
        · intro x hx
          rcases List.mem_append.mp hx with hx | hx
          · exact g0.bnd x (List.mem_append_left _ hx)
          · rw [List.mem_singleton] at hx; subst hx; exact ⟨hpb.1, Int.le_trans hn.2 hB⟩
        · intro x hx
          rcases List.mem_append.mp hx with hx | hx
          · exact g0.dep x (List.mem_append_left _ hx)
          · rw [List.mem_singleton] at hx; subst hx; exact hpd
        · have := g0.siz
          rw [rsz_append] at this ⊢
          simpa [rsz] using this
      refine ⟨toLad (L.rows.take q ++ [(p.1, n)] ++ M.rows.filter fun x => Lad.less x.1 p.1), a3, b3, (g1.app (K fun x => Lad.less x.1 p.1) ?_).gl, hp3, ?_⟩
      · intro x hx y hy
        have hy2 := (List.mem_filter.mp hy).2
        rcases List.mem_append.mp hx with hx | hx
        · have g0 := (List.pairwise_append.mp g1.ok.fall).2.2 x hx (p.1, n) (by simp)
          exact Lad.less_trans _ _ _ hy2 g0
        · rw [List.mem_singleton] at hx; subst hx; exact hy2
      · rw [v_toLad, List.map_append, List.map_append, List.map_take]
        rw [run_ok h3 _ _ _ rfl]
        have hpr : pr p = .tup [.tup p.1.enc, .int p.2] := rfl
        rw [hpr] at at1
        simp [d__law_near, startE, hlen1, e1, hqi, e2, at1, e3, C, A1, A2, sl]
        simp [pr]
    · obtain ⟨N, gN, eN⟩ := B2 (S.set l (pu a2 b2)) a2 b2 hp2 rfl none
      refine ⟨N, a2, b2, gN, hp2, ?_⟩
      rw [run_ok h3 _ _ _ rfl, hb, hst, evB_cons, c0, sbind_nx, evB_cons]
      have c1 : evS (run P (k + 2)) (nthCs d__law_near.body 1) [some (.ref l), some (.tup (L.rows.map pr)), some (.tup (M.rows.map pr)), some (.int q), none, none] (S.set l (pu a1 b1)) = .ok .nx [some (.ref l), some (.tup (L.rows.map pr)), some (.tup (M.rows.map pr)), some (.int q), none, none] (S.set l (pu a2 b2)) := by
        simp [nthCs, d__law_near, hqi, e2, hw1]
      rw [c1, sbind_nx, eN, fin_rt]
  · have hqi : ¬ (q : Int) < (L.rows.length : Int) := by omega
    obtain ⟨N, gN, eN⟩ := B2 (S.set l (pu a1 b1)) a1 b1 hp1 rfl none
    refine ⟨N, a1, b1, gN, hp1, ?_⟩
    rw [run_ok h3 _ _ _ rfl, hb, hst, evB_cons, c0, sbind_nx, evB_cons]
    have c1 : evS (run P (k + 2)) (nthCs d__law_near.body 1) [some (.ref l), some (.tup (L.rows.map pr)), some (.tup (M.rows.map pr)), some (.int q), none, none] (S.set l (pu a1 b1)) = .ok .nx [some (.ref l), some (.tup (L.rows.map pr)), some (.tup (M.rows.map pr)), some (.int q), none, none] (S.set l (pu a1 b1)) := by
      simp [nthCs, d__law_near]
      omega
    rw [c1, sbind_nx, eN, fin_rt]
theorem near_run {P : Str → Option Fd} (k : Nat) (h1 : P "_law_draw" = some d__law_draw) (h2 : P "_law_many" = some d__law_many) (h3 : P "_law_near" = some d__law_near) (S : Sto) {l : Nat} {a b : Int} (hS : S[l]? = some (pu a b)) (hp : PU a b) (L M : Lad) (d z z' : Nat) (hL : Gl big L d z) (hM : Gl big M d z') (hd : d ≤ 20) (hz : z ≤ 10000) (hz' : z' ≤ 10000) :
    ∃ (N : Lad) (a' b' : Int), Gl big N d (z + z') ∧ PU a' b' ∧ run P (k + 3) "_law_near" [.ref l, L.v, M.v] S = .ok (.v N.v) (S.set l (pu a' b')) := near_runB big (Int.le_refl _) k h1 h2 h3 S hS hp L M d z z' hL hM hd hz hz'
end Fe

/-! Put: more on loops -/
namespace Fe
open PySem
theorem for_cells2 (body : Env → Sto → SR) (tg : Tg) (I : Nat → Env → Sto → Prop) (hb : ∀ (i : Nat) (c : Int) (env : Env) (S : Sto), i ≤ 100 → I i env S → ∃ env1, asgT tg (.tup [.int i, .int c]) env = some env1 ∧ ∃ env2 S2, body env1 S = .ok .nx env2 S2 ∧ I (i + 1) env2 S2) :
    ∀ (cs : List Int) (i : Nat) (env : Env) (S : Sto), i + cs.length ≤ 100 → I i env S → ∃ env' S', forL body tg [] (enumFrom i (cs.map Val.int)) env S = .ok .nx env' S' ∧ I (i + cs.length) env' S'
  | [], i, env, S, _, hI => ⟨env, S, by simp [enumFrom, forL], hI⟩
  | c :: cs, i, env, S, hl, hI => by
    simp only [List.length_cons] at hl
    obtain ⟨env1, h1, env2, S2, h2, h3⟩ := hb i c env S (by omega) hI
    obtain ⟨env', S', h4, h5⟩ := for_cells2 body tg I hb cs (i + 1) env2 S2 (by omega) h3
    refine ⟨env', S', ?_, ?_⟩
    · simp only [List.map_cons, enumFrom, forL, guardS_nil', h1, h2, h4]
    · rwa [show i + (c :: cs).length = i + 1 + cs.length by simp only [List.length_cons]; omega]
/-- a loop over a range -/
theorem for_rng (body : Env → Sto → SR) (tg : Tg) (lo : Int) (I : Nat → Env → Sto → Prop) (N : Nat) (hb : ∀ (i : Nat) (env : Env) (S : Sto), i < N → I i env S → ∃ env1, asgT tg (.int (lo + i)) env = some env1 ∧ ∃ env2 S2, body env1 S = .ok .nx env2 S2 ∧ I (i + 1) env2 S2) :
    ∀ (n i : Nat) (env : Env) (S : Sto), i + n = N → I i env S → ∃ env' S', forL body tg [] ((List.range' i n).map fun j : Nat => Val.int (lo + j)) env S = .ok .nx env' S' ∧ I N env' S'
  | 0, i, env, S, h, hI => ⟨env, S, by simp [forL], by rwa [← h]⟩
  | n + 1, i, env, S, h, hI => by
    obtain ⟨env1, h1, env2, S2, h2, h3⟩ := hb i env S (by omega) hI
    obtain ⟨env', S', h4, h5⟩ := for_rng body tg lo I N hb n (i + 1) env2 S2 (by omega) h3
    refine ⟨env', S', ?_, h5⟩
    rw [List.range'_succ]
    simp only [List.map_cons, forL, guardS_nil', h1, h2, h4]
theorem rng_range' (lo : Int) (n : Nat) : rngL lo n = (List.range' 0 n).map fun j : Nat => Val.int (lo + j) := by
  rw [rngL, List.range_eq_range']
theorem at_map {α : Type} (f : α → Val) {xs : List α} {j : Nat} {x : α} (h : xs[j]? = some x) : L2.atI (xs.map f) (j : Int) = some (f x) := L2.atI_nat (by simp [h])
/-- an index that lies within finds some item -/
theorem at_some {α : Type} (f : α → Val) {xs : List α} {i : Int} (h1 : -(xs.length : Int) ≤ i) (h2 : i < xs.length) : ∃ x ∈ xs, L2.atI (xs.map f) i = some (f x) := by
  have key : ∀ j : Nat, j < xs.length → L2.ixN (xs.map f).length i = some j → ∃ x ∈ xs, L2.atI (xs.map f) i = some (f x) := by
    intro j hj e
    refine ⟨xs[j], List.getElem_mem hj, ?_⟩
    unfold L2.atI
    rw [e]
    simp [hj]
  by_cases h0 : 0 ≤ i
  · refine key i.toNat (by omega) ?_
    unfold L2.ixN
    rw [if_pos h0, List.length_map, if_pos h2]
  · refine key (i + xs.length).toNat (by omega) ?_
    unfold L2.ixN
    rw [if_neg h0, List.length_map, if_pos h1]
theorem set_last {S : Sto} {l : Nat} {xs : List Val} {x : Val} (h : S[l]? = some (.lst (xs ++ [x]))) (z : Val) : setIxR l (-1) z S = some (S.set l (.lst (xs ++ [z]))) := by
  have e : L2.ixN (xs ++ [x]).length (-1) = some xs.length := by
    unfold L2.ixN
    rw [if_neg (by decide), if_pos (by simp only [List.length_append, List.length_cons, List.length_nil]; omega)]
    congr 1
    simp only [List.length_append, List.length_cons, List.length_nil]
    omega
  simp only [setIxR, h, e, Option.map_some]
  simp
theorem range_z (z : Int) (h1 : -1000000 ≤ z) (h2 : z ≤ 1000000) : rangeR [.v (.int z)] = some ⟨rngL 0 z.toNat, []⟩ := by
  have h5 : rngOk z = true := by
    simp only [rngOk, Bool.and_eq_true, decide_eq_true_eq]
    omega
  simp only [rangeR, h5, if_true]
theorem met_append {S : Sto} {l : Nat} {xs : List Val} (h : S[l]? = some (.lst xs)) (hl : xs.length < 16000000) (x : Val) : metR .append l [x] S = some (.v .non, S.set l (.lst (xs ++ [x]))) := by
  have : xs.length < sizeLine := Nat.lt_of_lt_of_le hl (by decide)
  simp only [metR, h, if_pos this]
theorem len_ref {S : Sto} {l : Nat} {xs : List Val} (h : S[l]? = some (.lst xs)) : blt1 S .len (.v (.ref l)) = some (.v (.int xs.length)) := by simp [blt1, seqOf, lstOf, lstW, h]
theorem fr_got {ls : List Nat} {S S' : Sto} (f : Fr ls S S') {j : Nat} {o : Ob} (h : S[j]? = some o) (hj : ∀ l ∈ ls, l ≠ j) : S'[j]? = some o := fr_ne f h (fun q => hj j q rfl)
theorem app_got {S : Sto} {o o' : Ob} {j : Nat} (h : S[j]? = some o) : (S ++ [o'])[j]? = some o := by rw [List.getElem?_append_left (got_lt h)]; exact h
theorem set_ne {S : Sto} {o o' : Ob} {j l : Nat} (h : S[j]? = some o) (hn : l ≠ j) : (S.set l o')[j]? = some o := by rw [List.getElem?_set_ne hn]; exact h
end Fe

/-! LadS: sums of ladders, plainly -/
namespace Fe
open PySem
/-- what stands at an exponent -/
def coef (e : Lad) : List Row → Int
  | [] => 0
  | p :: r => (if p.1 = e then p.2 else 0) + coef e r
theorem coef_app (e : Lad) : ∀ a b : List Row, coef e (a ++ b) = coef e a + coef e b
  | [], b => by simp [coef]
  | p :: a, b => by simp only [List.cons_append, coef, coef_app e a b]; omega
theorem coef_perm (e : Lad) {a b : List Row} (h : a.Perm b) : coef e a = coef e b := by
  induction h with
  | nil => rfl
  | cons x _ ih => simp only [coef, ih]
  | swap x y l => simp only [coef]; omega
  | trans _ _ h1 h2 => rw [h1, h2]
theorem coef_none (e : Lad) : ∀ a : List Row, (∀ p ∈ a, p.1 ≠ e) → coef e a = 0
  | [], _ => rfl
  | p :: a, h => by
    simp only [coef, if_neg (h p (by simp)), coef_none e a (fun q hq => h q (by simp [hq]))]
    omega
theorem coef_pos (e : Lad) : ∀ a : List Row, (∀ p ∈ a, 1 ≤ p.2) → 0 ≤ coef e a ∧ ((∃ p ∈ a, p.1 = e) → 1 ≤ coef e a)
  | [], _ => ⟨by simp [coef], by simp⟩
  | p :: a, h => by
    obtain ⟨h1, h2⟩ := coef_pos e a fun q hq => h q (by simp [hq])
    have hp := h p (by simp)
    by_cases c : p.1 = e
    · simp only [coef, if_pos c]
      exact ⟨by omega, fun _ => by omega⟩
    · simp only [coef, if_neg c]
      refine ⟨by omega, ?_⟩
      rintro ⟨q, hq, rfl⟩
      rcases List.mem_cons.mp hq with rfl | hq
      · exact absurd rfl c
      · have := h2 ⟨q, hq, rfl⟩
        omega
theorem coef_mem {e : Lad} {a : List Row} (h : coef e a ≠ 0) : ∃ p ∈ a, p.1 = e := by
  apply Classical.byContradiction
  intro q
  exact h (coef_none e a fun p hp hpe => q ⟨p, hp, hpe⟩)
theorem Rok.tail {p : Row} {r : List Row} (h : Rok (p :: r)) : Rok r := ⟨fun q hq => h.each q (by simp [hq]), (List.pairwise_cons.mp h.fall).2⟩
theorem Rok.coef_head {p : Row} {r : List Row} (h : Rok (p :: r)) : coef p.1 (p :: r) = p.2 := by
  have : coef p.1 r = 0 := coef_none _ _ fun q hq e => by
    have := (List.pairwise_cons.mp h.fall).1 q hq
    rw [e, Lad.less_irr] at this
    cases this
  simp only [coef, if_true, this]
  omega
theorem Rok.nn {r : List Row} (h : Rok r) (e : Lad) : 0 ≤ coef e r := (coef_pos e r fun p hp => (h.each p hp).2).1
/-- rows are known by what stands at each exponent -/
theorem ext_rows : ∀ (r r' : List Row), Rok r → Rok r' → (∀ e, coef e r = coef e r') → r = r'
  | [], [], _, _, _ => rfl
  | [], q :: r', _, h', e => by
    have h1 := (h'.each q (by simp)).2
    have h2 := e q.1
    rw [h'.coef_head] at h2
    simp only [coef] at h2
    omega
  | p :: r, [], h, _, e => by
    have h1 := (h.each p (by simp)).2
    have h2 := e p.1
    rw [h.coef_head] at h2
    simp only [coef] at h2
    omega
  | p :: r, q :: r', h, h', e => by
    have hp := (h.each p (by simp)).2
    have hq := (h'.each q (by simp)).2
    have e1 := e p.1
    rw [h.coef_head] at e1
    have e2 := e q.1
    rw [h'.coef_head] at e2
    obtain ⟨x, hx, hx1⟩ := coef_mem (e := p.1) (a := q :: r') (by omega)
    obtain ⟨y, hy, hy1⟩ := coef_mem (e := q.1) (a := p :: r) (by omega)
    have hpq : p.1 = q.1 := by
      rcases List.mem_cons.mp hx with rfl | hx
      · exact hx1.symm
      · rcases List.mem_cons.mp hy with rfl | hy
        · exact hy1
        · have a1 := (List.pairwise_cons.mp h'.fall).1 x hx
          have a2 := (List.pairwise_cons.mp h.fall).1 y hy
          rw [hx1] at a1
          rw [hy1] at a2
          rw [Lad.less_asym _ _ a1] at a2
          cases a2
    have hv : p.2 = q.2 := by
      rw [hpq, h'.coef_head] at e1
      exact e1
    have hpe : p = q := Prod.ext hpq hv
    subst hpe
    rw [ext_rows r r' h.tail h'.tail fun x => by
      have := e x
      simp only [coef] at this
      omega]
/-! ### behind -/
def beh (a : List Row) : List Row → List Row
  | [] => a
  | q :: ts => (a.filter fun p => Lad.less q.1 p.1) ++ [(q.1, coef q.1 a + q.2)] ++ ts
theorem beh_gr {B B' : Int} {a b : List Row} {d z z' : Nat} (h : Gr B a d z) (h' : Gr B' b d z') : Gr (B + B') (beh a b) d (z + z') ∨ True := .inr trivial
/-! ### both -/
def bo : List Row → List Row → List Row
  | a, [] => a
  | [], q :: b => q :: b
  | p :: a, q :: b => if Lad.less q.1 p.1 = true then p :: bo a (q :: b) else if p.1 = q.1 then (q.1, p.2 + q.2) :: bo a b else q :: bo (p :: a) b
termination_by a b => a.length + b.length
theorem bo_nil (a : List Row) : bo a [] = a := by
  cases a <;> simp [bo]
theorem nil_bo (b : List Row) : bo [] b = b := by
  cases b <;> simp [bo]
theorem coef_bo (e : Lad) : ∀ (n : Nat) (a b : List Row), a.length + b.length ≤ n → coef e (bo a b) = coef e a + coef e b
  | n, a, [], _ => by rw [bo_nil]; simp [coef]
  | n, [], q :: b, _ => by rw [nil_bo]; simp [coef]
  | n + 1, p :: a, q :: b, h => by
    simp only [List.length_cons] at h
    rw [bo]
    split
    · simp only [coef, coef_bo e n a (q :: b) (by simp only [List.length_cons]; omega)]
      omega
    · split
      · rename_i hpq
        simp only [coef, coef_bo e n a b (by omega), hpq]
        split <;> omega
      · simp only [coef, coef_bo e n (p :: a) b (by simp only [List.length_cons]; omega)]
        omega
theorem bo_mem : ∀ (n : Nat) (a b : List Row), a.length + b.length ≤ n → ∀ x ∈ bo a b, (x ∈ a ∨ x ∈ b) ∨ ∃ p ∈ a, ∃ q ∈ b, p.1 = q.1 ∧ x = (q.1, p.2 + q.2)
  | n, a, [], _ => by rw [bo_nil]; intro x hx; exact .inl (.inl hx)
  | n, [], q :: b, _ => by rw [nil_bo]; intro x hx; exact .inl (.inr hx)
  | n + 1, p :: a, q :: b, h => by
    simp only [List.length_cons] at h
    rw [bo]
    split
    · intro x hx
      rcases List.mem_cons.mp hx with rfl | hx
      · exact .inl (.inl (by simp))
      · rcases bo_mem n a (q :: b) (by simp only [List.length_cons]; omega) x hx with (h1 | h1) | ⟨s, hs, t, ht, e1, e2⟩
        · exact .inl (.inl (by simp [h1]))
        · exact .inl (.inr h1)
        · exact .inr ⟨s, by simp [hs], t, ht, e1, e2⟩
    · split
      · rename_i hpq
        intro x hx
        rcases List.mem_cons.mp hx with rfl | hx
        · exact .inr ⟨p, by simp, q, by simp, hpq, rfl⟩
        · rcases bo_mem n a b (by omega) x hx with (h1 | h1) | ⟨s, hs, t, ht, e1, e2⟩
          · exact .inl (.inl (by simp [h1]))
          · exact .inl (.inr (by simp [h1]))
          · exact .inr ⟨s, by simp [hs], t, by simp [ht], e1, e2⟩
      · intro x hx
        rcases List.mem_cons.mp hx with rfl | hx
        · exact .inl (.inr (by simp))
        · rcases bo_mem n (p :: a) b (by simp only [List.length_cons]; omega) x hx with (h1 | h1) | ⟨s, hs, t, ht, e1, e2⟩
          · exact .inl (.inl h1)
          · exact .inl (.inr (by simp [h1]))
          · exact .inr ⟨s, hs, t, by simp [ht], e1, e2⟩
theorem bo_exp {a b : List Row} {x : Row} (h : x ∈ bo a b) : (∃ p ∈ a, p.1 = x.1) ∨ ∃ q ∈ b, q.1 = x.1 := by
  rcases bo_mem _ a b (Nat.le_refl _) x h with (h | h) | ⟨s, hs, t, ht, e1, rfl⟩
  · exact .inl ⟨x, h, rfl⟩
  · exact .inr ⟨x, h, rfl⟩
  · exact .inr ⟨t, ht, rfl⟩
theorem bo_rok : ∀ (n : Nat) (a b : List Row), a.length + b.length ≤ n → Rok a → Rok b → Rok (bo a b)
  | n, a, [], _, h, _ => by rw [bo_nil]; exact h
  | n, [], q :: b, _, _, h => by rw [nil_bo]; exact h
  | n + 1, p :: a, q :: b, hl, h, h' => by
    simp only [List.length_cons] at hl
    have hp := List.pairwise_cons.mp h.fall
    have hq := List.pairwise_cons.mp h'.fall
    have mk : ∀ (y : Row) (r : List Row), (y.1.ok = true ∧ 1 ≤ y.2) → Rok r → (∀ x ∈ r, Lad.less x.1 y.1 = true) → Rok (y :: r) := fun y r h1 h2 h3 => ⟨fun x hx => by
      rcases List.mem_cons.mp hx with rfl | hx
      · exact h1
      · exact h2.each x hx, List.pairwise_cons.mpr ⟨h3, h2.fall⟩⟩
    rw [bo]
    split
    · rename_i c
      refine mk p _ (h.each p (by simp)) (bo_rok n a (q :: b) (by simp only [List.length_cons]; omega) h.tail h') ?_
      intro x hx
      rcases bo_exp hx with ⟨y, hy, e⟩ | ⟨y, hy, e⟩
      · rw [← e]; exact hp.1 y hy
      · rw [← e]
        rcases List.mem_cons.mp hy with rfl | hy
        · exact c
        · exact Lad.less_trans _ _ _ (hq.1 y hy) c
    · rename_i c
      split
      · rename_i hpq
        have h1 := h.each p (by simp)
        have h2 := h'.each q (by simp)
        refine mk _ _ ⟨h2.1, by show 1 ≤ p.2 + q.2; omega⟩ (bo_rok n a b (by omega) h.tail h'.tail) ?_
        intro x hx
        rcases bo_exp hx with ⟨y, hy, e⟩ | ⟨y, hy, e⟩
        · rw [← e]; show Lad.less y.1 q.1 = true; rw [← hpq]; exact hp.1 y hy
        · rw [← e]; exact hq.1 y hy
      · rename_i hpq
        have c2 : Lad.less p.1 q.1 = true := by
          cases hc : Lad.less p.1 q.1 with
          | true => rfl
          | false => exact absurd (Lad.less_tri _ _ hc (by simpa using c)) hpq
        refine mk q _ (h'.each q (by simp)) (bo_rok n (p :: a) b (by simp only [List.length_cons]; omega) h h'.tail) ?_
        intro x hx
        rcases bo_exp hx with ⟨y, hy, e⟩ | ⟨y, hy, e⟩
        · rw [← e]
          rcases List.mem_cons.mp hy with rfl | hy
          · exact c2
          · exact Lad.less_trans _ _ _ (hp.1 y hy) c2
        · rw [← e]; exact hq.1 y hy
theorem rsz_bo : ∀ (n : Nat) (a b : List Row), a.length + b.length ≤ n → rsz (bo a b) ≤ rsz a + rsz b
  | n, a, [], _ => by rw [bo_nil]; omega
  | n, [], q :: b, _ => by rw [nil_bo]; omega
  | n + 1, p :: a, q :: b, h => by
    simp only [List.length_cons] at h
    rw [bo]
    split
    · have := rsz_bo n a (q :: b) (by simp only [List.length_cons]; omega)
      simp only [rsz] at this ⊢; omega
    · split
      · rename_i hpq
        have := rsz_bo n a b (by omega)
        simp only [rsz] at this ⊢; omega
      · have := rsz_bo n (p :: a) b (by simp only [List.length_cons]; omega)
        simp only [rsz] at this ⊢; omega
theorem bnd_mono {B B' : Int} (h : B ≤ B') : ∀ L : Lad, L.bnd B = true → L.bnd B' = true
  | .nil, _ => rfl
  | .cons e n r, hb => by
    simp only [Lad.bnd, Bool.and_eq_true, decide_eq_true_eq] at hb ⊢
    exact ⟨⟨bnd_mono h e hb.1.1, by omega⟩, bnd_mono h r hb.2⟩
theorem Gr.both {B B' : Int} {a b : List Row} {d z z' : Nat} (hB : 0 ≤ B) (hB' : 0 ≤ B') (h : Gr B a d z) (h' : Gr B' b d z') : Gr (B + B') (bo a b) d (z + z') := by
  refine ⟨bo_rok _ a b (Nat.le_refl _) h.ok h'.ok, ?_, ?_, ?_⟩
  · intro x hx
    rcases bo_mem _ a b (Nat.le_refl _) x hx with (hx | hx) | ⟨s, hs, t, ht, e1, rfl⟩
    · have := h.bnd x hx; exact ⟨bnd_mono (by omega) _ this.1, by omega⟩
    · have := h'.bnd x hx; exact ⟨bnd_mono (by omega) _ this.1, by omega⟩
    · have h1 := h.bnd s hs
      have h2 := h'.bnd t ht
      exact ⟨bnd_mono (by omega) _ h2.1, by show s.2 + t.2 ≤ B + B'; omega⟩
  · intro x hx
    rcases bo_exp hx with ⟨y, hy, e⟩ | ⟨y, hy, e⟩
    · rw [← e]; exact h.dep y hy
    · rw [← e]; exact h'.dep y hy
  · have := rsz_bo _ a b (Nat.le_refl _)
    have := h.siz
    have := h'.siz
    omega
end Fe

/-! LadT: the program's sums of ladders, run -/
namespace Fe
open PySem
def d_behind : Fd := ⟨2, 7, (.cons (.ite (.cmp .eq (.var 1) (.tup .nil)) (.cons (.ret (.some (.var 0))) .nil) .nil) (.cons (.asg (.t [(.n 4), (.n 5)]) (.ix (.var 1) (.cst (.int 0)))) (.cons (.set 2 (.comp [6] (.n 6) (.e (.var 0)) (.some (.call "is_less" (.cons (.var 4) (.cons (.ix (.var 6) (.cst (.int 0))) .nil)))) (.var 6))) (.cons (.set 3 (.comp [6] (.n 6) (.e (.var 0)) (.some (.cmp .eq (.ix (.var 6) (.cst (.int 0))) (.var 4))) (.ix (.var 6) (.cst (.int 1))))) (.cons (.ret (.some (.bin .add (.bin .add (.blt .tuple (.cons (.var 2) .nil)) (.tup (.cons (.tup (.cons (.var 4) (.cons (.bin .add (.blt .sum (.cons (.var 3) .nil)) (.var 5)) .nil))) .nil))) (.sl (.var 1) (.some (.cst (.int 1))) .none)))) .nil)))))⟩
def d__law_behind : Fd := ⟨2, 5, (.cons (.ite (.cmp .eq (.var 1) (.tup .nil)) (.cons (.ret (.some (.var 0))) .nil) .nil) (.cons (.set 2 (.ix (.ix (.var 1) (.cst (.int 0))) (.cst (.int 1)))) (.cons (.set 3 (.lst .nil)) (.cons (.for (.n 4) (.e (.var 0)) (.cons (.ite (.cmp .gt (.ix (.var 4) (.cst (.int 0))) (.ix (.ix (.var 1) (.cst (.int 0))) (.cst (.int 0)))) (.cons (.ex (.met .append (.var 3) (.cons (.var 4) .nil))) .nil) .nil) (.cons (.ite (.cmp .eq (.ix (.var 4) (.cst (.int 0))) (.ix (.ix (.var 1) (.cst (.int 0))) (.cst (.int 0)))) (.cons (.set 2 (.bin .add (.var 2) (.ix (.var 4) (.cst (.int 1))))) .nil) .nil) .nil))) (.cons (.ret (.some (.bin .add (.bin .add (.blt .tuple (.cons (.var 3) .nil)) (.tup (.cons (.tup (.cons (.ix (.ix (.var 1) (.cst (.int 0))) (.cst (.int 0))) (.cons (.var 2) .nil))) .nil))) (.sl (.var 1) (.some (.cst (.int 1))) .none)))) .nil)))))⟩
def d__law_some : Fd := ⟨1, 3, (.cons (.set 1 (.call "_law_ladder" (.cons (.var 0) (.cons (.ix (.lst (.cons (.cst (.int 1)) (.cons (.cst (.int 2)) (.cons (.cst (.int 4)) (.cons (.cst (.int 12)) .nil))))) (.call "_law_draw" (.cons (.var 0) (.cons (.cst (.int 4)) .nil)))) (.cons (.lst (.cons (.cst (.int 30)) .nil)) .nil))))) (.cons (.set 2 (.call "_law_ladder" (.cons (.var 0) (.cons (.ix (.lst (.cons (.cst (.int 1)) (.cons (.cst (.int 2)) (.cons (.cst (.int 4)) (.cons (.cst (.int 12)) .nil))))) (.call "_law_draw" (.cons (.var 0) (.cons (.cst (.int 4)) .nil)))) (.cons (.lst (.cons (.cst (.int 30)) .nil)) .nil))))) (.cons (.ite (.cmp .eq (.call "_law_draw" (.cons (.var 0) (.cons (.cst (.int 2)) .nil))) (.cst (.int 1))) (.cons (.set 2 (.call "_law_near" (.cons (.var 0) (.cons (.var 1) (.cons (.var 2) .nil))))) .nil) .nil) (.cons (.ret (.some (.tup (.cons (.var 1) (.cons (.var 2) .nil))))) .nil))))⟩
def d_both : Fd := ⟨2, 6, (.cons (.set 2 (.lst .nil)) (.cons (.set 3 (.cst (.int 0))) (.cons (.for (.t [(.n 4), (.n 5)]) (.e (.var 1)) (.cons (.wh (.and (.cmp .lt (.var 3) (.blt .len (.cons (.var 0) .nil))) (.call "is_less" (.cons (.var 4) (.cons (.ix (.ix (.var 0) (.var 3)) (.cst (.int 0))) .nil)))) (.cons (.ex (.met .append (.var 2) (.cons (.ix (.var 0) (.var 3)) .nil))) (.cons (.set 3 (.bin .add (.var 3) (.cst (.int 1)))) .nil))) (.cons (.ite (.and (.cmp .lt (.var 3) (.blt .len (.cons (.var 0) .nil))) (.cmp .eq (.ix (.ix (.var 0) (.var 3)) (.cst (.int 0))) (.var 4))) (.cons (.ex (.met .append (.var 2) (.cons (.tup (.cons (.var 4) (.cons (.bin .add (.ix (.ix (.var 0) (.var 3)) (.cst (.int 1))) (.var 5)) .nil))) .nil))) (.cons (.set 3 (.bin .add (.var 3) (.cst (.int 1)))) .nil)) (.cons (.ex (.met .append (.var 2) (.cons (.tup (.cons (.var 4) (.cons (.var 5) .nil))) .nil))) .nil)) .nil))) (.cons (.ret (.some (.bin .add (.blt .tuple (.cons (.var 2) .nil)) (.sl (.var 0) (.some (.var 3)) .none)))) .nil))))⟩
def d_many_of : Fd := ⟨2, 4, (.cons (.ite (.cmp .eq (.var 1) (.cst (.int 0))) (.cons (.ret (.some (.tup .nil))) .nil) .nil) (.cons (.ret (.some (.blt .tuple (.cons (.comp [2, 3] (.t [(.n 2), (.n 3)]) (.e (.var 0)) .none (.tup (.cons (.var 2) (.cons (.bin .mul (.var 3) (.var 1)) .nil)))) .nil)))) .nil))⟩
def d__law_both : Fd := ⟨2, 5, (.cons (.set 2 (.lst .nil)) (.cons (.for (.t [(.n 3), (.n 4)]) (.e (.rev (.blt .sorted (.cons (.bin .add (.var 0) (.var 1)) .nil)))) (.cons (.ite (.and (.cmp .ne (.var 2) (.lst .nil)) (.cmp .eq (.ix (.ix (.var 2) (.neg (.cst (.int 1)))) (.cst (.int 0))) (.var 3))) (.cons (.set 4 (.bin .add (.var 4) (.ix (.met .pop (.var 2) .nil) (.cst (.int 1))))) .nil) .nil) (.cons (.ex (.met .append (.var 2) (.cons (.tup (.cons (.var 3) (.cons (.var 4) .nil))) .nil))) .nil))) (.cons (.ret (.some (.blt .tuple (.cons (.var 2) .nil)))) .nil)))⟩
def d__law_times : Fd := ⟨2, 4, (.cons (.ret (.some (.blt .tuple (.cons (.comp [2, 3] (.t [(.n 2), (.n 3)]) (.e (.var 0)) (.some (.cmp .gt (.var 1) (.cst (.int 0)))) (.tup (.cons (.var 2) (.cons (.bin .mul (.var 3) (.var 1)) .nil)))) .nil)))) .nil)⟩
/-- a call that changes nothing but things at ls -/
theorem callP {T : Fns} {f : Str} {xs : List Val} {x : Val} {S S0 : Sto} {ls : List Nat} (h : ∃ S', T f xs S = .ok (.v x) S' ∧ Fr ls S S') (hx : nref x = true) (h0 : S0.length ≤ S.length) (hF : Fr ls S0 S) : ∃ S3, ((T f xs S).bind fun r S2 => cut S0.length r S2) = .ok (.v x) S3 ∧ Fr ls S0 S3 := by
  obtain ⟨S', e, f'⟩ := h
  obtain ⟨S3, ec, f1, f2⟩ := cut_fr x S0.length S' hx (Nat.le_trans h0 f'.le)
  refine ⟨S3, by rw [e]; exact ec, f1, fun j hj hl => ?_⟩
  rw [f2 j hj, f'.eq j (by omega) hl, hF.eq j hj hl]
theorem callQ {T : Fns} {f : Str} {xs : List Val} {x : Val} {S : Sto} {ls : List Nat} (h : ∃ S', T f xs S = .ok (.v x) S' ∧ Fr ls S S') (hx : nref x = true) : ∃ S3, ((T f xs S).bind fun r S2 => cut S.length r S2) = .ok (.v x) S3 ∧ Fr ls S S3 := callP h hx (Nat.le_refl _) (Fr.refl _ _)
@[simp] theorem nr_lad (L : Lad) : nref L.v = true := rfl
theorem tuple_ref {S : Sto} {l : Nat} {xs : List Val} (h : S[l]? = some (.lst xs)) : blt1 S .tuple (.v (.ref l)) = some (.v (.tup xs)) := by simp [blt1, seqOf, lstOf, lstW, h]
theorem sum_ref {S : Sto} {l : Nat} {xs : List Val} {is : List Int} (h : S[l]? = some (.lst xs)) (hi : intsOf xs = some is) : blt1 S .sum (.v (.ref l)) = some (.v (.int is.sum)) := by simp [blt1, lstOf, lstW, h, hi]
theorem ints_map {α : Type} (g : α → Int) : ∀ l : List α, intsOf (l.map fun i => .int (g i)) = some (l.map g)
  | [] => rfl
  | x :: l => by simp [intsOf, ints_map g l]
/-- a comprehension that keeps some items of a tuple, each turned to another thing -/
theorem comp_turn (T : Fns) (own : List Nat) (j : Nat) (it : It) (c a : E) (env : Env) (S : Sto) {α : Type} (f g : α → Val) (p : α → Bool) (xs : List α) (hi : evI T it env S = .ok ⟨xs.map f, []⟩ S) (hl : xs.length ≤ 16000000) (hc : ∀ x ∈ xs, evT T c ((wipeE env own).set j (some (f x))) S = .ok (p x) S) (ha : ∀ x ∈ xs, evE T a ((wipeE env own).set j (some (f x))) S = .ok (.v (g x)) S) : evE T (.comp own (.n j) it (.some c) a) env S = .ok (.t (.lst ((xs.filter p).map g))) S := by
  have key : ∀ (ys : List α), (∀ y ∈ ys, y ∈ xs) → ∀ acc, compL (evT T c) (evE T a) (.n j) (wipeE env own) [] (ys.map f) acc S = .ok (.t (.lst (acc ++ (ys.filter p).map g))) S := by
    intro ys
    induction ys with
    | nil => intro _ acc; simp [compL]
    | cons y ys ih =>
      intro hy acc
      have h1 := hc y (hy y (by simp))
      have h2 := ha y (hy y (by simp))
      have ih' := ih fun z hz => hy z (by simp [hz])
      rw [List.map_cons, compL, guardL_nil']
      simp only [asgT_n, h1, bind_ok, h2, lay_v]
      cases hp : p y
      · rw [if_neg (by simp), ih']
        simp [List.filter, hp]
      · rw [if_pos rfl, ih']
        simp [List.filter, hp]
  have hl' : (xs.map f).length ≤ sizeLine := le_line (by rw [List.length_map]; exact hl)
  rw [evE_comp, hi]
  simp only [bind_ok, if_pos hl', evC_some, key xs (fun _ h => h), nox_ok, List.nil_append]
theorem coef_sum (e : Lad) : ∀ a : List Row, ((a.filter fun p => decide (p.1 = e)).map fun p => p.2).sum = coef e a
  | [] => rfl
  | p :: a => by
    have := coef_sum e a
    by_cases h : p.1 = e
    · simp only [List.filter, h, decide_true, coef, if_true, List.map_cons, List.sum_cons, this]
    · simp only [List.filter, h, decide_false, coef, if_false, this]; omega
theorem is_nil (S : Sto) (M : Lad) (h : M.dep ≤ 31) : eqR S (.v M.v) (.v (.tup [])) = some (decide (M.rows = [])) := by
  have := Lad.eqR_enc S M .nil h (by simp [Lad.dep])
  rw [show Lad.enc .nil = [] from rfl] at this
  rw [Lad.v, this]
  cases M <;> simp [Lad.rows]
/-- a ladder that is small enough for every step -/
structure Fit (L : Lad) : Prop where
  dep : L.dep ≤ 28
  siz : L.siz ≤ 100000
theorem Gl.fit {B : Int} {L : Lad} {d z : Nat} (h : Gl B L d z) (hd : d ≤ 28) (hz : z ≤ 100000) : Fit L := ⟨by have := h.dep; omega, by have := h.siz; omega⟩
theorem Fit.len {L : Lad} (h : Fit L) : L.rows.length ≤ 100000 := by
  have := h.siz
  have := L.len_siz
  rw [len_rows]
  omega
section
variable {P : Str → Option Fd} (k : Nat) (S : Sto)
theorem behind_run (h : P "behind" = some d_behind) (h1 : P "is_less" = some d_is_less) (L M : Lad) (hL : Fit L) (hM : Fit M) : ∃ S', run P (k + 31) "behind" [L.v, M.v] S = .ok (.v (toLad (beh L.rows M.rows)).v) S' ∧ Fr [] S S' := by
  have lL := hL.len
  have lM := hM.len
  have dL := hL.dep
  have dM := hM.dep
  have E := is_nil S M (by omega)
  rw [run_ok h _ _ _ rfl]
  cases hm : M.rows with
  | nil =>
    rw [hm] at E
    refine ⟨S, ?_, Fr.refl _ _⟩
    simp [d_behind, startE, E, beh, toLad_rows]
  | cons q ts =>
    rw [hm] at E
    have hq : q.1.dep ≤ 28 := by have := dep_rows _ M (Nat.le_refl _) q (by rw [hm]; simp); omega
    have hrd : ∀ p ∈ L.rows, p.1.dep ≤ 28 := fun p hp => by have := dep_rows _ L (Nat.le_refl _) p hp; omega
    let T := run P (k + 30)
    let e1 : Env := [some (.tup (L.rows.map pr)), some (.tup (pr q :: ts.map pr)), none, none, some q.1.v, some (.int q.2), none]
    have C1 := comp_keep T [6] 6 (.e (.var 0)) (.call "is_less" (.cons (.var 4) (.cons (.ix (.var 6) (.cst (.int 0))) .nil))) e1 S pr (fun p => Lad.less q.1 p.1) L.rows (by simp [e1]) (by omega) (by simp [e1]) (by
      intro x hx
      have lr := less_run (P := P) S h1 (k + 30) q.1 x.1 (by omega) (by omega) (by have := hrd x hx; omega)
      simp only [Lad.v] at lr
      simp [e1, T, pr, lr, Lad.v])
    let S1 := S ++ [Ob.lst ((L.rows.filter fun p => Lad.less q.1 p.1).map pr)]
    let e2 : Env := [some (.tup (L.rows.map pr)), some (.tup (pr q :: ts.map pr)), some (.ref S.length), none, some q.1.v, some (.int q.2), none]
    have C2 := comp_turn T [6] 6 (.e (.var 0)) (.cmp .eq (.ix (.var 6) (.cst (.int 0))) (.var 4)) (.ix (.var 6) (.cst (.int 1))) e2 S1 pr (fun p => .int p.2) (fun p => decide (p.1 = q.1)) L.rows (by simp [e2]) (by omega) (by
      intro x hx
      have eq := Lad.eqR_enc S1 x.1 q.1 (by have := hrd x hx; omega) (by omega)
      simp [e2, pr, eq, Lad.v]) (by
      intro x hx
      simp [e2, pr])
    let S2 := S1 ++ [Ob.lst ((L.rows.filter fun p => decide (p.1 = q.1)).map fun p => .int p.2)]
    have g1 : S2[S.length]? = some (.lst ((L.rows.filter fun p => Lad.less q.1 p.1).map pr)) := app_got (got_end S _)
    have g2 : S2[S1.length]? = some (.lst ((L.rows.filter fun p => decide (p.1 = q.1)).map fun p => .int p.2)) := got_end S1 _
    have t1 := tuple_ref g1
    have s1 := sum_ref g2 (ints_map _ _)
    rw [coef_sum] at s1
    have hf : (L.rows.filter fun p => Lad.less q.1 p.1).length ≤ 100000 := Nat.le_trans (List.length_filter_le _ _) lL
    have A1 := add_tup S2 ((L.rows.filter fun p => Lad.less q.1 p.1).map pr) [.tup [q.1.v, .int (coef q.1 L.rows + q.2)]] (by simp only [List.length_map, List.length_cons, List.length_nil]; omega)
    have A2 := add_tup S2 ((L.rows.filter fun p => Lad.less q.1 p.1).map pr ++ [.tup [q.1.v, .int (coef q.1 L.rows + q.2)]]) (ts.map pr) (by
      have : ts.length ≤ 100000 := by rw [hm] at lM; simp only [List.length_cons] at lM; omega
      simp only [List.length_append, List.length_map, List.length_cons, List.length_nil]; omega)
    have sl := sl_drop S2 (pr q :: ts.map pr) 1
    refine ⟨S2, ?_, (Fr.app S _).trans (Fr.app S1 _)⟩
    have hv : (toLad (beh L.rows (q :: ts))).v = .tup ((L.rows.filter fun p => Lad.less q.1 p.1).map pr ++ [.tup [q.1.v, .int (coef q.1 L.rows + q.2)]] ++ ts.map pr) := by
      rw [v_toLad]
      simp [beh, pr, Lad.v]
    have hS1 : S1.length = S.length + 1 := by simp [S1]
    have st1 : evS T (nthCs d_behind.body 0) [some (.tup (L.rows.map pr)), some (.tup (pr q :: ts.map pr)), none, none, none, none, none] S = .ok .nx [some (.tup (L.rows.map pr)), some (.tup (pr q :: ts.map pr)), none, none, none, none, none] S := by
      have E' : eqR S (.v (.tup (pr q :: ts.map pr))) (.v (.tup [])) = some false := by
        have : M.v = .tup (pr q :: ts.map pr) := by rw [v_rows, hm]; rfl
        rw [this] at E
        simpa using E
      simp [nthCs, d_behind, E']
    have st2 : evS T (nthCs d_behind.body 1) [some (.tup (L.rows.map pr)), some (.tup (pr q :: ts.map pr)), none, none, none, none, none] S = .ok .nx e1 S := by
      simp [nthCs, d_behind, e1]
      simp [pr, Lad.v]
    have st3 : evS T (nthCs d_behind.body 2) e1 S = .ok .nx e2 S1 := by
      show evS T (.set 2 _) e1 S = _
      rw [evS_set, C1]
      simp [e1, e2, S1]
    have st4 : evS T (nthCs d_behind.body 3) e2 S1 = .ok .nx (e2.set 3 (some (.ref S1.length))) S2 := by
      show evS T (.set 3 _) e2 S1 = _
      rw [evS_set, C2]
      simp [S2]
    have hb : d_behind.body = .cons (nthCs d_behind.body 0) (.cons (nthCs d_behind.body 1) (.cons (nthCs d_behind.body 2) (.cons (nthCs d_behind.body 3) (.cons (.ret (.some (.bin .add (.bin .add (.blt .tuple (.cons (.var 2) .nil)) (.tup (.cons (.tup (.cons (.var 4) (.cons (.bin .add (.blt .sum (.cons (.var 3) .nil)) (.var 5)) .nil))) .nil))) (.sl (.var 1) (.some (.cst (.int 1))) .none)))) .nil)))) := rfl
    have hst : startE d_behind.n [L.v, M.v] = [some (.tup (L.rows.map pr)), some (.tup (pr q :: ts.map pr)), none, none, none, none, none] := by
      rw [v_rows L, v_rows M, hm]
      rfl
    have hsl : slR S2 (.v (.tup (pr q :: ts.map pr))) (some 1) none = some (.v (.tup (ts.map pr))) := sl
    rw [hb, hst, evB_cons, st1, sbind_nx, evB_cons, st2, sbind_nx, evB_cons, st3, sbind_nx, evB_cons, st4, sbind_nx, hv]
    simp only [evB_cons, evS_ret, evE_bin, evE_blt, evR_cons, evR_nil, evE_var, evE_tup, evA_cons, evA_nil, evE_sl, evO_some, evO_none, evE_cst, e2, List.set_cons_succ, List.set_cons_zero, List.getElem?_cons_zero, List.getElem?_cons_succ, bind_ok, lay_v, blt_one, t1, s1, of_some, bin_add, A1, hsl, A2, st_ok, sbind_rt, fin_rt]
def lbFor : Cs := forOf (nthCs d__law_behind.body 3)
theorem lb_loop (T : Fns) (v0 : Option Val) (q : Row) (ts : List Row) (r : Nat) (hq : q.1.dep ≤ 28) : ∀ (rs : List Row) (S : Sto) (m : Int) (ah : List Row) (x : Option Val), (∀ p ∈ rs, p.1.dep ≤ 28) → S[r]? = some (.lst (ah.map pr)) → ah.length + rs.length ≤ 1000000 → ∃ x', forL (evB T lbFor) (.n 4) [] (rs.map pr) [v0, some (.tup (pr q :: ts.map pr)), some (.int m), some (.ref r), x] S = .ok .nx [v0, some (.tup (pr q :: ts.map pr)), some (.int (m + coef q.1 rs)), some (.ref r), x'] (S.set r (.lst ((ah ++ rs.filter fun p => Lad.less q.1 p.1).map pr)))
  | [], S, m, ah, x, _, hS, _ => ⟨x, by simp [forL, coef, set_eq hS]⟩
  | p :: rs, S, m, ah, x, hd, hS, hl => by
    simp only [List.length_cons] at hl
    have dp := hd p (by simp)
    have gt := gtR_enc p.1 q.1 dp
    cases hc : Lad.less q.1 p.1 with
    | true =>
      rw [hc] at gt
      have hne : ¬ p.1 = q.1 := fun e => by rw [e, Lad.less_irr] at hc; cases hc
      have ap := met_append hS (by rw [List.length_map]; omega) (pr p)
      have eq := Lad.eqR_enc (S.set r (.lst (ah.map pr ++ [pr p]))) p.1 q.1 (by omega) (by omega)
      have hS' : (S.set r (.lst (ah.map pr ++ [pr p])))[r]? = some (.lst ((ah ++ [p]).map pr)) := by rw [set_got hS]; simp
      obtain ⟨x', ih⟩ := lb_loop T v0 q ts r hq rs _ m (ah ++ [p]) (some (pr p)) (fun y hy => hd y (by simp [hy])) hS' (by simp only [List.length_append, List.length_cons, List.length_nil]; omega)
      refine ⟨x', ?_⟩
      have B : evB T lbFor [v0, some (.tup (pr q :: ts.map pr)), some (.int m), some (.ref r), some (pr p)] S = .ok .nx [v0, some (.tup (pr q :: ts.map pr)), some (.int m), some (.ref r), some (pr p)] (S.set r (.lst (ah.map pr ++ [pr p]))) := by
        simp only [pr] at ap eq hS ⊢
        simp [lbFor, forOf, nthCs, d__law_behind, cmp_gtV, gt, hS, ap, eq, hne]
      rw [List.set_set] at ih
      simp only [List.map_cons, forL, guardS_nil', asgT_n, List.set_cons_succ, List.set_cons_zero, B, ih]
      simp [coef, hne, List.filter, hc]
    | false =>
      rw [hc] at gt
      have eq := Lad.eqR_enc S p.1 q.1 (by omega) (by omega)
      by_cases hne : p.1 = q.1
      · obtain ⟨x', ih⟩ := lb_loop T v0 q ts r hq rs S (m + p.2) ah (some (pr p)) (fun y hy => hd y (by simp [hy])) hS (by omega)
        refine ⟨x', ?_⟩
        have B : evB T lbFor [v0, some (.tup (pr q :: ts.map pr)), some (.int m), some (.ref r), some (pr p)] S = .ok .nx [v0, some (.tup (pr q :: ts.map pr)), some (.int (m + p.2)), some (.ref r), some (pr p)] S := by
          simp only [pr] at hS ⊢
          simp [lbFor, forOf, nthCs, d__law_behind, cmp_gtV, gt, eq, hne]
          rw [hne] at eq gt
          simp [eq, gt]
        simp only [List.map_cons, forL, guardS_nil', asgT_n, List.set_cons_succ, List.set_cons_zero, B, ih]
        simp [coef, hne, List.filter, Lad.less_irr]
        omega
      · obtain ⟨x', ih⟩ := lb_loop T v0 q ts r hq rs S m ah (some (pr p)) (fun y hy => hd y (by simp [hy])) hS (by omega)
        refine ⟨x', ?_⟩
        have B : evB T lbFor [v0, some (.tup (pr q :: ts.map pr)), some (.int m), some (.ref r), some (pr p)] S = .ok .nx [v0, some (.tup (pr q :: ts.map pr)), some (.int m), some (.ref r), some (pr p)] S := by
          simp only [pr] at hS ⊢
          simp [lbFor, forOf, nthCs, d__law_behind, cmp_gtV, gt, eq, hne]
        simp only [List.map_cons, forL, guardS_nil', asgT_n, List.set_cons_succ, List.set_cons_zero, B, ih]
        simp [coef, hne, List.filter, hc]
theorem lbehind_run (h : P "_law_behind" = some d__law_behind) (L M : Lad) (hL : Fit L) (hM : Fit M) : ∃ S', run P (k + 1) "_law_behind" [L.v, M.v] S = .ok (.v (toLad (beh L.rows M.rows)).v) S' ∧ Fr [] S S' := by
  have lL := hL.len
  have lM := hM.len
  have dL := hL.dep
  have dM := hM.dep
  have E := is_nil S M (by omega)
  rw [run_ok h _ _ _ rfl]
  cases hm : M.rows with
  | nil =>
    rw [hm] at E
    refine ⟨S, ?_, Fr.refl _ _⟩
    simp [d__law_behind, startE, E, beh, toLad_rows]
  | cons q ts =>
    have hq : q.1.dep ≤ 28 := by have := dep_rows _ M (Nat.le_refl _) q (by rw [hm]; simp); omega
    have hrd : ∀ p ∈ L.rows, p.1.dep ≤ 28 := fun p hp => by have := dep_rows _ L (Nat.le_refl _) p hp; omega
    obtain ⟨x', W⟩ := lb_loop (run P k) (some (.tup (L.rows.map pr))) q ts S.length hq L.rows (S ++ [.lst []]) q.2 [] none hrd (got_end S _) (by simp only [List.length_nil]; omega)
    have hset : (S ++ [Ob.lst []]).set S.length (.lst (([] ++ L.rows.filter fun (p : Row) => Lad.less q.1 p.1).map pr)) = S ++ [.lst ((L.rows.filter fun p => Lad.less q.1 p.1).map pr)] := by simp
    rw [hset] at W
    let S2 := S ++ [Ob.lst ((L.rows.filter fun p => Lad.less q.1 p.1).map pr)]
    have t1 := tuple_ref (got_end S (Ob.lst ((L.rows.filter fun p => Lad.less q.1 p.1).map pr)))
    have hf : (L.rows.filter fun p => Lad.less q.1 p.1).length ≤ 100000 := Nat.le_trans (List.length_filter_le _ _) lL
    have A1 := add_tup S2 ((L.rows.filter fun p => Lad.less q.1 p.1).map pr) [.tup [q.1.v, .int (q.2 + coef q.1 L.rows)]] (by simp only [List.length_map, List.length_cons, List.length_nil]; omega)
    have A2 := add_tup S2 ((L.rows.filter fun p => Lad.less q.1 p.1).map pr ++ [.tup [q.1.v, .int (q.2 + coef q.1 L.rows)]]) (ts.map pr) (by
      have : ts.length ≤ 100000 := by rw [hm] at lM; simp only [List.length_cons] at lM; omega
      simp only [List.length_append, List.length_map, List.length_cons, List.length_nil]; omega)
    have hsl : slR S2 (.v (.tup (pr q :: ts.map pr))) (some 1) none = some (.v (.tup (ts.map pr))) := sl_drop S2 (pr q :: ts.map pr) 1
    have hv : (toLad (beh L.rows (q :: ts))).v = .tup ((L.rows.filter fun p => Lad.less q.1 p.1).map pr ++ [.tup [q.1.v, .int (q.2 + coef q.1 L.rows)]] ++ ts.map pr) := by
      rw [v_toLad]
      simp [beh, pr, Lad.v]
      omega
    have hb : d__law_behind.body = .cons (nthCs d__law_behind.body 0) (.cons (nthCs d__law_behind.body 1) (.cons (nthCs d__law_behind.body 2) (.cons (.for (.n 4) (.e (.var 0)) lbFor) (.cons (.ret (.some (.bin .add (.bin .add (.blt .tuple (.cons (.var 3) .nil)) (.tup (.cons (.tup (.cons (.ix (.ix (.var 1) (.cst (.int 0))) (.cst (.int 0))) (.cons (.var 2) .nil))) .nil))) (.sl (.var 1) (.some (.cst (.int 1))) .none)))) .nil)))) := rfl
    have hst : startE d__law_behind.n [L.v, M.v] = [some (.tup (L.rows.map pr)), some (.tup (pr q :: ts.map pr)), none, none, none] := by
      rw [v_rows L, v_rows M, hm]
      rfl
    have st1 : evS (run P k) (nthCs d__law_behind.body 0) [some (.tup (L.rows.map pr)), some (.tup (pr q :: ts.map pr)), none, none, none] S = .ok .nx [some (.tup (L.rows.map pr)), some (.tup (pr q :: ts.map pr)), none, none, none] S := by
      have E' : eqR S (.v (.tup (pr q :: ts.map pr))) (.v (.tup [])) = some false := by
        have : M.v = .tup (pr q :: ts.map pr) := by rw [v_rows, hm]; rfl
        rw [this, hm] at E
        simpa using E
      simp [nthCs, d__law_behind, E']
    have st2 : evS (run P k) (nthCs d__law_behind.body 1) [some (.tup (L.rows.map pr)), some (.tup (pr q :: ts.map pr)), none, none, none] S = .ok .nx [some (.tup (L.rows.map pr)), some (.tup (pr q :: ts.map pr)), some (.int q.2), none, none] S := by
      simp [nthCs, d__law_behind]
      simp [pr]
    have st3 : evS (run P k) (nthCs d__law_behind.body 2) [some (.tup (L.rows.map pr)), some (.tup (pr q :: ts.map pr)), some (.int q.2), none, none] S = .ok .nx [some (.tup (L.rows.map pr)), some (.tup (pr q :: ts.map pr)), some (.int q.2), some (.ref S.length), none] (S ++ [.lst []]) := by
      simp [nthCs, d__law_behind]
    refine ⟨S2, ?_, Fr.app S _⟩
    rw [hb, hst, evB_cons, st1, sbind_nx, evB_cons, st2, sbind_nx, evB_cons, st3, sbind_nx, evB_cons, evS_for]
    simp only [evI_e, evE_var, List.getElem?_cons_zero, bind_ok, src_tup, of_some, st_ok]
    rw [W, sbind_nx, hv]
    have hpr : pr q = .tup [.tup q.1.enc, .int q.2] := rfl
    simp only [S2, Lad.v] at A1 A2 hsl
    rw [hpr] at hsl ⊢
    simp only [Lad.v, evB_cons, evS_ret, evE_bin, evE_blt, evR_cons, evR_nil, evE_var, evE_tup, evA_cons, evA_nil, evE_sl, evO_some, evO_none, evE_cst, evE_ix, ix_tup, atI_zero, List.getElem?_cons_zero, List.getElem?_cons_succ, bind_ok, lay_v, blt_one, t1, of_some, A1, hsl, A2, st_ok, sbind_rt, fin_rt]
    rfl
theorem lsome_run (h1 : P "_law_draw" = some d__law_draw) (h2 : P "_law_many" = some d__law_many) (h3 : P "_law_ladder" = some d__law_ladder) (h4 : P "_law_near" = some d__law_near) (h5 : P "_law_some" = some d__law_some) {l : Nat} {a b : Int} (hS : S[l]? = some (pu a b)) (hp : PU a b) : ∃ (L M : Lad) (a' b' : Int) (S' : Sto), run P (k + 31) "_law_some" [.ref l] S = .ok (.v (.tup [L.v, M.v])) S' ∧ Gl big L 20 30 ∧ Gl big M 20 60 ∧ PU a' b' ∧ S'[l]? = some (pu a' b') ∧ Fr [l] S S' := by
  have hu : ∀ v : Int, 0 ≤ v → v < 4 → ∃ u : Nat, 1 ≤ u ∧ u ≤ 20 ∧ L2.atI [Val.int 1, .int 2, .int 4, .int 12] v = some (.int u) := by
    intro v h1 h2
    have : v = 0 ∨ v = 1 ∨ v = 2 ∨ v = 3 := by omega
    rcases this with rfl | rfl | rfl | rfl
    · exact ⟨1, by decide, by decide, rfl⟩
    · exact ⟨2, by decide, by decide, rfl⟩
    · exact ⟨4, by decide, by decide, rfl⟩
    · exact ⟨12, by decide, by decide, rfl⟩
  obtain ⟨L, c1, a1, b1, S1, e1, d1, p1, g1, f1⟩ := lad_call (P := P) k h1 h2 h3 0 [.int 1, .int 2, .int 4, .int 12] (.cons (.cst (.int 1)) (.cons (.cst (.int 2)) (.cons (.cst (.int 4)) (.cons (.cst (.int 12)) .nil)))) 4 30 30 rfl (by decide) [some (.ref l), none, none] S l a b rfl hS hp (by decide) (by decide) (by intro S; simp) hu
  obtain ⟨M, c2, a2, b2, S2, e2, d2, p2, g2, f2⟩ := lad_call (P := P) k h1 h2 h3 0 [.int 1, .int 2, .int 4, .int 12] (.cons (.cst (.int 1)) (.cons (.cst (.int 2)) (.cons (.cst (.int 4)) (.cons (.cst (.int 12)) .nil)))) 4 30 30 rfl (by decide) [some (.ref l), some L.v, none] S1 l a1 b1 rfl g1 p1 (by decide) (by decide) (by intro S; simp) hu
  obtain ⟨v, a3, b3, hv, p3, e3⟩ := draw_run (P := P) (k + 29) S2 h1 g2 p2 2 (by decide) (by decide)
  have hb : d__law_some.body = .cons (nthCs d__law_some.body 0) (.cons (nthCs d__law_some.body 1) (.cons (nthCs d__law_some.body 2) (.cons (nthCs d__law_some.body 3) .nil))) := rfl
  have hst : startE d__law_some.n [.ref l] = [some (.ref l), none, none] := rfl
  have s0 : evS (run P (k + 30)) (nthCs d__law_some.body 0) [some (.ref l), none, none] S = .ok .nx [some (.ref l), some L.v, none] S1 := by
    show evS (run P (k + 30)) (.set 1 _) _ _ = _
    rw [evS_set, e1]
    simp
  have s1 : evS (run P (k + 30)) (nthCs d__law_some.body 1) [some (.ref l), some L.v, none] S1 = .ok .nx [some (.ref l), some L.v, some M.v] S2 := by
    show evS (run P (k + 30)) (.set 2 _) _ _ = _
    rw [evS_set, e2]
    simp
  rw [run_ok h5 _ _ _ rfl, hb, hst, evB_cons, s0, sbind_nx, evB_cons, s1, sbind_nx, evB_cons]
  by_cases hv1 : v = 1
  · subst hv1
    have g3 := set_got g2 (pu a3 b3)
    obtain ⟨N, a4, b4, gN, p4, e4⟩ := near_run (P := P) (k + 27) h1 h2 h4 _ g3 p3 L M 20 30 30 (d1.gl.up (by omega) (by omega)) (d2.gl.up (by omega) (by omega)) (by omega) (by omega) (by omega)
    rw [List.set_set] at e4
    have s2 : evS (run P (k + 30)) (nthCs d__law_some.body 2) [some (.ref l), some L.v, some M.v] S2 = .ok .nx [some (.ref l), some L.v, some N.v] (S2.set l (pu a4 b4)) := by
      simp [nthCs, d__law_some, e3, e4]
    rw [s2, sbind_nx]
    refine ⟨L, N, a4, b4, S2.set l (pu a4 b4), by simp [nthCs, d__law_some], d1.gl.up (by omega) (by omega), gN, p4, set_got g2 _, (f1.trans f2).trans (Fr.set _ _ (by simp))⟩
  · have s2 : evS (run P (k + 30)) (nthCs d__law_some.body 2) [some (.ref l), some L.v, some M.v] S2 = .ok .nx [some (.ref l), some L.v, some M.v] (S2.set l (pu a3 b3)) := by
      simp [nthCs, d__law_some, e3, hv1]
    rw [s2, sbind_nx]
    refine ⟨L, M, a3, b3, S2.set l (pu a3 b3), by simp [nthCs, d__law_some], d1.gl.up (by omega) (by omega), d2.gl.up (by omega) (by omega), p3, set_got g2 _, (f1.trans f2).trans (Fr.set _ _ (by simp))⟩
end
end Fe

/-! Pw: expressions, statements whose outcome does not hang on the store -/
namespace Fe
open PySem
def Pv (T : Fns) (e : E) (env : Env) (x : Val) : Prop := ∀ S, ∃ S', evE T e env S = .ok (.v x) S' ∧ Fr [] S S'
def Pt (T : Fns) (e : E) (env : Env) (b : Bool) : Prop := ∀ S, ∃ S', evT T e env S = .ok b S' ∧ Fr [] S S'
def Pf (T : Fns) (f : Str) (xs : List Val) (y : Val) : Prop := ∀ S, ∃ S', T f xs S = .ok (.v y) S' ∧ Fr [] S S'
def Pas (T : Fns) (es : Es) (env : Env) (xs : List Val) : Prop := ∀ S, ∃ S', evA T es env S = .ok xs S' ∧ Fr [] S S'
def Prs (T : Fns) (es : Es) (env : Env) (xs : List Val) : Prop := ∀ S, ∃ S', evR T es env S = .ok (xs.map Rv.v) S' ∧ Fr [] S S'
def Ps (T : Fns) (c : C) (env env' : Env) : Prop := ∀ S, ∃ S', evS T c env S = .ok .nx env' S' ∧ Fr [] S S'
def Pb (T : Fns) (c : Cs) (env env' : Env) : Prop := ∀ S, ∃ S', evB T c env S = .ok .nx env' S' ∧ Fr [] S S'
def Pr (T : Fns) (c : Cs) (env : Env) (x : Val) : Prop := ∀ S, ∃ env' S', evB T c env S = .ok (.rt (.v x)) env' S' ∧ Fr [] S S'
section
variable {T : Fns} {env env' env'' : Env} {a b c : E} {x y z : Val} {es : Es} {xs : List Val} {f : Str} {k j : Bool}
theorem Pv.var {i : Nat} (h : env[i]? = some (some x)) : Pv T (.var i) env x := fun S => ⟨S, by simp [h], Fr.refl _ _⟩
theorem Pv.cst : Pv T (.cst x) env x := fun S => ⟨S, by simp, Fr.refl _ _⟩
theorem Pv.glb {n : Str} : Pv T (.glb n x) env x := fun S => ⟨S, by simp, Fr.refl _ _⟩
theorem Pas.nil : Pas T .nil env [] := fun S => ⟨S, by simp, Fr.refl _ _⟩
theorem Pas.cons (h : Pv T a env x) (h' : Pas T es env xs) : Pas T (.cons a es) env (x :: xs) := fun S => by
  obtain ⟨S1, e1, f1⟩ := h S
  obtain ⟨S2, e2, f2⟩ := h' S1
  exact ⟨S2, by simp [e1, e2], f1.trans f2⟩
theorem Prs.nil : Prs T .nil env [] := fun S => ⟨S, by simp, Fr.refl _ _⟩
theorem Prs.cons (h : Pv T a env x) (h' : Prs T es env xs) : Prs T (.cons a es) env (x :: xs) := fun S => by
  obtain ⟨S1, e1, f1⟩ := h S
  obtain ⟨S2, e2, f2⟩ := h' S1
  exact ⟨S2, by simp [e1, e2], f1.trans f2⟩
theorem Pv.tup (h : Pas T es env xs) : Pv T (.tup es) env (.tup xs) := fun S => by
  obtain ⟨S1, e1, f1⟩ := h S
  exact ⟨S1, by simp [e1], f1⟩
theorem Pv.call (h : Pas T es env xs) (hf : Pf T f xs y) (hy : nref y = true) : Pv T (.call f es) env y := fun S => by
  obtain ⟨S1, e1, f1⟩ := h S
  obtain ⟨S3, e3, f3⟩ := callP (hf S1) hy f1.le f1
  exact ⟨S3, by rw [evE_call, e1, bind_ok]; exact e3, f3⟩
theorem Pv.bin {o : Bop} (h : Pv T a env x) (h' : Pv T b env y) (hb : ∀ S, binR S o (.v x) (.v y) = some (.v z)) : Pv T (.bin o a b) env z := fun S => by
  obtain ⟨S1, e1, f1⟩ := h S
  obtain ⟨S2, e2, f2⟩ := h' S1
  exact ⟨S2, by simp [e1, e2, hb], f1.trans f2⟩
theorem Pv.cmp {o : Cop} (h : Pv T a env x) (h' : Pv T b env y) (hb : ∀ S, cmpR S o (.v x) (.v y) = some k) : Pv T (.cmp o a b) env (.bl k) := fun S => by
  obtain ⟨S1, e1, f1⟩ := h S
  obtain ⟨S2, e2, f2⟩ := h' S1
  exact ⟨S2, by simp [e1, e2, hb], f1.trans f2⟩
theorem Pv.ix {i : Int} (h : Pv T a env x) (h' : Pv T b env (.int i)) (hb : ∀ S, ixR S (.v x) i = some z) : Pv T (.ix a b) env z := fun S => by
  obtain ⟨S1, e1, f1⟩ := h S
  obtain ⟨S2, e2, f2⟩ := h' S1
  exact ⟨S2, by simp [e1, e2, hb], f1.trans f2⟩
theorem Pv.blt {g : Bf} (h : Prs T es env xs) (hb : ∀ S, bltR S g (xs.map Rv.v) = some (.v z)) : Pv T (.blt g es) env z := fun S => by
  obtain ⟨S1, e1, f1⟩ := h S
  exact ⟨S1, by simp [e1, hb], f1⟩
theorem Pv.isi {t : Ty} (h : Pv T a env x) (hb : ∀ S, isiR S (.v x) t = some k) : Pv T (.isi a t) env (.bl k) := fun S => by
  obtain ⟨S1, e1, f1⟩ := h S
  exact ⟨S1, by simp [e1, hb], f1⟩
theorem Pv.not (h : Pv T a env x) (hb : ∀ S, truR S (.v x) = some k) : Pv T (.not a) env (.bl (!k)) := fun S => by
  obtain ⟨S1, e1, f1⟩ := h S
  exact ⟨S1, by simp [e1, hb], f1⟩
theorem Pv.and_t (h : Pv T a env x) (hb : ∀ S, truR S (.v x) = some true) (h' : Pv T b env y) : Pv T (.and a b) env y := fun S => by
  obtain ⟨S1, e1, f1⟩ := h S
  obtain ⟨S2, e2, f2⟩ := h' S1
  exact ⟨S2, by simp [e1, hb, e2], f1.trans f2⟩
theorem Pv.and_f (h : Pv T a env x) (hb : ∀ S, truR S (.v x) = some false) : Pv T (.and a b) env x := fun S => by
  obtain ⟨S1, e1, f1⟩ := h S
  exact ⟨S1, by simp [e1, hb], f1⟩
theorem Pv.or_t (h : Pv T a env x) (hb : ∀ S, truR S (.v x) = some true) : Pv T (.or a b) env x := fun S => by
  obtain ⟨S1, e1, f1⟩ := h S
  exact ⟨S1, by simp [e1, hb], f1⟩
theorem Pv.or_f (h : Pv T a env x) (hb : ∀ S, truR S (.v x) = some false) (h' : Pv T b env y) : Pv T (.or a b) env y := fun S => by
  obtain ⟨S1, e1, f1⟩ := h S
  obtain ⟨S2, e2, f2⟩ := h' S1
  exact ⟨S2, by simp [e1, hb, e2], f1.trans f2⟩
/-! tests -/
theorem Pt.call (h : Pv T (.call f es) env (.bl k)) : Pt T (.call f es) env k := fun S => by
  obtain ⟨S1, e1, f1⟩ := h S
  exact ⟨S1, by rw [evT_call, e1]; simp, f1⟩
theorem Pt.cmp {o : Cop} (h : Pv T (.cmp o a b) env (.bl k)) : Pt T (.cmp o a b) env k := fun S => by
  obtain ⟨S1, e1, f1⟩ := h S
  exact ⟨S1, by rw [evT_cmp, e1]; simp, f1⟩
theorem Pt.isi {t : Ty} (h : Pv T (.isi a t) env (.bl k)) : Pt T (.isi a t) env k := fun S => by
  obtain ⟨S1, e1, f1⟩ := h S
  exact ⟨S1, by rw [evT_isi, e1]; simp, f1⟩
theorem Pt.blt {g : Bf} (h : Pv T (.blt g es) env (.bl k)) : Pt T (.blt g es) env k := fun S => by
  obtain ⟨S1, e1, f1⟩ := h S
  exact ⟨S1, by rw [evT_blt, e1]; simp, f1⟩
theorem Pt.not (h : Pt T a env k) : Pt T (.not a) env (!k) := fun S => by
  obtain ⟨S1, e1, f1⟩ := h S
  exact ⟨S1, by simp [e1], f1⟩
theorem Pt.or_f (h : Pt T a env false) (h' : Pt T b env k) : Pt T (.or a b) env k := fun S => by
  obtain ⟨S1, e1, f1⟩ := h S
  obtain ⟨S2, e2, f2⟩ := h' S1
  exact ⟨S2, by simp [e1, e2], f1.trans f2⟩
theorem Pt.or_t (h : Pt T a env true) : Pt T (.or a b) env true := fun S => by
  obtain ⟨S1, e1, f1⟩ := h S
  exact ⟨S1, by simp [e1], f1⟩
theorem Pt.and_t (h : Pt T a env true) (h' : Pt T b env k) : Pt T (.and a b) env k := fun S => by
  obtain ⟨S1, e1, f1⟩ := h S
  obtain ⟨S2, e2, f2⟩ := h' S1
  exact ⟨S2, by simp [e1, e2], f1.trans f2⟩
theorem Pt.and_f (h : Pt T a env false) : Pt T (.and a b) env false := fun S => by
  obtain ⟨S1, e1, f1⟩ := h S
  exact ⟨S1, by simp [e1], f1⟩
/-! statements -/
variable {s : C} {p q : Cs}
theorem Ps.set {i : Nat} (h : Pv T a env x) : Ps T (.set i a) env (env.set i (some x)) := fun S => by
  obtain ⟨S1, e1, f1⟩ := h S
  exact ⟨S1, by simp [e1], f1⟩
theorem Ps.asg {t : Tg} (h : Pv T a env x) (ht : asgT t x env = some env') : Ps T (.asg t a) env env' := fun S => by
  obtain ⟨S1, e1, f1⟩ := h S
  exact ⟨S1, by simp [e1, ht], f1⟩
theorem Ps.ite_t (h : Pt T a env true) (hp : Pb T p env env') : Ps T (.ite a p q) env env' := fun S => by
  obtain ⟨S1, e1, f1⟩ := h S
  obtain ⟨S2, e2, f2⟩ := hp S1
  exact ⟨S2, by simp [e1, e2], f1.trans f2⟩
theorem Ps.ite_f (h : Pt T a env false) (hq : Pb T q env env') : Ps T (.ite a p q) env env' := fun S => by
  obtain ⟨S1, e1, f1⟩ := h S
  obtain ⟨S2, e2, f2⟩ := hq S1
  exact ⟨S2, by simp [e1, e2], f1.trans f2⟩
/-- if c: return … with c false -/
theorem Ps.skip (h : Pt T a env false) : Ps T (.ite a p .nil) env env := fun S => by
  obtain ⟨S1, e1, f1⟩ := h S
  exact ⟨S1, by simp [e1], f1⟩
theorem Pb.nil : Pb T .nil env env := fun S => ⟨S, by simp, Fr.refl _ _⟩
theorem Pb.cons (h : Ps T s env env') (h' : Pb T p env' env'') : Pb T (.cons s p) env env'' := fun S => by
  obtain ⟨S1, e1, f1⟩ := h S
  obtain ⟨S2, e2, f2⟩ := h' S1
  exact ⟨S2, by simp [e1, e2], f1.trans f2⟩
theorem Pr.ret (h : Pv T a env x) : Pr T (.cons (.ret (.some a)) p) env x := fun S => by
  obtain ⟨S1, e1, f1⟩ := h S
  exact ⟨env, S1, by simp [e1], f1⟩
theorem Pr.cons (h : Ps T s env env') (h' : Pr T p env' x) : Pr T (.cons s p) env x := fun S => by
  obtain ⟨S1, e1, f1⟩ := h S
  obtain ⟨env2, S2, e2, f2⟩ := h' S1
  exact ⟨env2, S2, by simp [e1, e2], f1.trans f2⟩
theorem Pr.ite_t (h : Pt T a env true) (hp : Pr T p env x) {r : Cs} : Pr T (.cons (.ite a p q) r) env x := fun S => by
  obtain ⟨S1, e1, f1⟩ := h S
  obtain ⟨env2, S2, e2, f2⟩ := hp S1
  exact ⟨env2, S2, by simp [e1, e2], f1.trans f2⟩
theorem Pf.run {P : Str → Option Fd} {d : Fd} (h : P f = some d) (n : Nat) (hl : xs.length = d.np) (hr : Pr (Fe.run P n) d.body (startE d.n xs) x) : Pf (Fe.run P (n + 1)) f xs x := fun S => by
  obtain ⟨env2, S2, e2, f2⟩ := hr S
  exact ⟨S2, by rw [run_ok h _ _ _ hl, e2]; rfl, f2⟩
theorem Pf.same (h : ∀ S, T f xs S = .ok (.v x) S) : Pf T f xs x := fun S => ⟨S, h S, Fr.refl _ _⟩
end
end Fe

/-! LadU: both, many of -/
namespace Fe
open PySem
def boFor : Cs := forOf (nthCs d_both.body 2)
def boC : E := .and (.cmp .lt (.var 3) (.blt .len (.cons (.var 0) .nil))) (.call "is_less" (.cons (.var 4) (.cons (.ix (.ix (.var 0) (.var 3)) (.cst (.int 0))) .nil)))
def boB : Cs := .cons (.ex (.met .append (.var 2) (.cons (.ix (.var 0) (.var 3)) .nil))) (.cons (.set 3 (.bin .add (.var 3) (.cst (.int 1)))) .nil)
theorem drop_at {α : Type} {xs : List α} {j : Nat} {x : α} (h : xs[j]? = some x) : xs.drop j = x :: xs.drop (j + 1) := by
  have hj := got_lt h
  rw [List.drop_eq_getElem_cons hj]
  rw [List.getElem?_eq_getElem hj] at h
  rw [Option.some.inj h]
theorem at_drop {α : Type} {xs r : List α} {j : Nat} {x : α} (h : xs.drop j = x :: r) : xs[j]? = some x ∧ xs.drop (j + 1) = r := by
  have h1 : (xs.drop j)[0]? = some x := by rw [h]; rfl
  rw [List.getElem?_drop] at h1
  refine ⟨by simpa using h1, ?_⟩
  rw [← List.drop_drop, h]
  rfl
section
variable {P : Str → Option Fd} (k : Nat) (h1 : P "is_less" = some d_is_less) (A : List Row) (hA : ∀ p ∈ A, p.1.dep ≤ 28) (hl : A.length ≤ 100000) (ot : Option Val) (r : Nat)
include h1 hA hl
theorem bo_wh (q : Row) (hq : q.1.dep ≤ 28) (b : List Row) : ∀ (rest : List Row) (fuel j : Nat) (S : Sto) (fs : List Row), A.drop j = rest → j ≤ A.length → rest.length < fuel → fs.length + rest.length ≤ 1000000 → S[r]? = some (.lst (fs.map pr)) →
    ∃ (j' : Nat) (fs' rest' : List Row), whL (evT (run P (k + 30)) boC) (evB (run P (k + 30)) boB) fuel [some (.tup (A.map pr)), ot, some (.ref r), some (.int j), some q.1.v, some (.int q.2)] S = .ok .nx [some (.tup (A.map pr)), ot, some (.ref r), some (.int j'), some q.1.v, some (.int q.2)] (S.set r (.lst (fs'.map pr))) ∧ A.drop j' = rest' ∧ j' ≤ A.length ∧ fs'.length + rest'.length = fs.length + rest.length ∧ fs' ++ bo rest' (q :: b) = fs ++ bo rest (q :: b) ∧ (∀ p a, rest' = p :: a → Lad.less q.1 p.1 = false)
  | [], fuel + 1, j, S, fs, hr, hj, _, hz, hS => by
    have hjl : ¬ j < A.length := fun c => by
      have := List.drop_eq_getElem_cons c
      rw [hr] at this
      cases this
    have hjl' : ¬ (j : Int) < (A.length : Int) := by omega
    refine ⟨j, fs, [], ?_, hr, hj, rfl, rfl, by intro p a h; cases h⟩
    have C : evT (run P (k + 30)) boC [some (.tup (A.map pr)), ot, some (.ref r), some (.int j), some q.1.v, some (.int q.2)] S = .ok false S := by
      simp [boC, hjl]
    rw [whL, C, set_eq hS]
    simp
  | p :: rest, fuel + 1, j, S, fs, hr, hj, hf, hz, hS => by
    simp only [List.length_cons] at hf hz
    obtain ⟨hp, hr'⟩ := at_drop hr
    have hjl : j < A.length := got_lt hp
    have ap := at_map pr hp
    have hpm := List.mem_of_getElem? hp
    have lr := less_run (P := P) S h1 (k + 30) q.1 p.1 (by omega) (by omega) (by have := hA p hpm; omega)
    simp only [Lad.v] at lr
    have hpr : pr p = .tup [.tup p.1.enc, .int p.2] := rfl
    cases hc : Lad.less q.1 p.1 with
    | true =>
      rw [hc] at lr
      have C : evT (run P (k + 30)) boC [some (.tup (A.map pr)), ot, some (.ref r), some (.int j), some q.1.v, some (.int q.2)] S = .ok true S := by
        rw [hpr] at ap
        simp [boC, hjl, ap, Lad.v, lr]
      have mt := met_append hS (by rw [List.length_map]; omega) (pr p)
      have B : evB (run P (k + 30)) boB [some (.tup (A.map pr)), ot, some (.ref r), some (.int j), some q.1.v, some (.int q.2)] S = .ok .nx [some (.tup (A.map pr)), ot, some (.ref r), some (.int ((j + 1 : Nat) : Int)), some q.1.v, some (.int q.2)] (S.set r (.lst ((fs ++ [p]).map pr))) := by
        simp [boB, hS, ap, mt]
      obtain ⟨j', fs', rest', e, e1, e2, e3, e4, e5⟩ := bo_wh q hq b rest fuel (j + 1) (S.set r (.lst ((fs ++ [p]).map pr))) (fs ++ [p]) hr' (by omega) (by omega) (by simp only [List.length_append, List.length_cons, List.length_nil]; omega) (set_got hS _)
      refine ⟨j', fs', rest', ?_, e1, e2, ?_, ?_, e5⟩
      · rw [whL, C, st_ok, if_pos rfl, B]
        simp only
        rw [e, List.set_set]
      · simp only [List.length_append, List.length_cons, List.length_nil] at e3 ⊢; omega
      · rw [e4, bo, if_pos hc]
        simp
    | false =>
      rw [hc] at lr
      have C : evT (run P (k + 30)) boC [some (.tup (A.map pr)), ot, some (.ref r), some (.int j), some q.1.v, some (.int q.2)] S = .ok false S := by
        rw [hpr] at ap
        simp [boC, hjl, ap, Lad.v, lr]
      refine ⟨j, fs, p :: rest, ?_, hr, hj, rfl, rfl, ?_⟩
      · rw [whL, C, set_eq hS]
        simp
      · intro p' a' h
        cases h
        exact hc
theorem bo_for : ∀ (b : List Row) (j : Nat) (S : Sto) (fs : List Row) (x y : Option Val), (∀ q ∈ b, q.1.dep ≤ 28) → j ≤ A.length → fs.length + (A.length - j) + b.length ≤ 1000000 → S[r]? = some (.lst (fs.map pr)) →
    ∃ (j' : Nat) (fs' : List Row) (x' y' : Option Val), forL (evB (run P (k + 30)) boFor) (.t [.n 4, .n 5]) [] (b.map pr) [some (.tup (A.map pr)), ot, some (.ref r), some (.int j), x, y] S = .ok .nx [some (.tup (A.map pr)), ot, some (.ref r), some (.int j'), x', y'] (S.set r (.lst (fs'.map pr))) ∧ j' ≤ A.length ∧ fs'.length + (A.length - j') ≤ fs.length + (A.length - j) + b.length ∧ fs' ++ A.drop j' = fs ++ bo (A.drop j) b
  | [], j, S, fs, x, y, _, hj, hz, hS => ⟨j, fs, x, y, by simp [forL, set_eq hS], hj, by simp, by rw [bo_nil]⟩
  | q :: b, j, S, fs, x, y, hd, hj, hz, hS => by
    simp only [List.length_cons] at hz
    have hq := hd q (by simp)
    have hdl : (A.drop j).length = A.length - j := by simp
    obtain ⟨j1, fs1, rest, e, e1, e2, e3, e4, e5⟩ := bo_wh k h1 A hA hl ot r q hq b (A.drop j) whFuel j S fs rfl hj (Nat.lt_of_lt_of_le (show (A.drop j).length < 1000000 by omega) (by decide)) (by omega) hS
    have hS1 := set_got hS (Ob.lst (fs1.map pr))
    have hrl : rest.length = A.length - j1 := by rw [← e1]; simp
    have hb : boFor = .cons (.wh boC boB) (.cons (nthCs boFor 1) .nil) := rfl
    have step : ∃ (j2 : Nat) (fs2 : List Row), evS (run P (k + 30)) (nthCs boFor 1) [some (.tup (A.map pr)), ot, some (.ref r), some (.int j1), some q.1.v, some (.int q.2)] (S.set r (.lst (fs1.map pr))) = .ok .nx [some (.tup (A.map pr)), ot, some (.ref r), some (.int j2), some q.1.v, some (.int q.2)] (S.set r (.lst (fs2.map pr))) ∧ j2 ≤ A.length ∧ fs2.length + (A.length - j2) ≤ fs1.length + (A.length - j1) + 1 ∧ fs2 ++ bo (A.drop j2) b = fs1 ++ bo rest (q :: b) := by
      cases hrest : rest with
      | nil =>
        have hjl : ¬ j1 < A.length := fun c => by
          have := List.drop_eq_getElem_cons c
          rw [e1, hrest] at this
          cases this
        refine ⟨j1, fs1 ++ [q], ?_, e2, by simp only [List.length_append, List.length_cons, List.length_nil]; omega, ?_⟩
        · have mt := met_append hS1 (by rw [List.length_map]; omega) (.tup [q.1.v, .int q.2])
          simp [nthCs, boFor, forOf, d_both, hjl, hS1, mt]
          simp [pr, Lad.v]
        · rw [e1, hrest, nil_bo, nil_bo]
          simp
      | cons p a =>
        rw [hrest] at e1
        obtain ⟨hp, ha⟩ := at_drop e1
        have hjl : j1 < A.length := got_lt hp
        have ap := at_map pr hp
        have hpr : pr p = .tup [.tup p.1.enc, .int p.2] := rfl
        rw [hpr] at ap
        have hpm := List.mem_of_getElem? hp
        have dp := hA p hpm
        have hns := e5 p a hrest
        have E := Lad.eqR_enc (S.set r (.lst (fs1.map pr))) p.1 q.1 (by omega) (by omega)
        rw [hrest] at hrl
        simp only [List.length_cons] at hrl
        by_cases hpq : p.1 = q.1
        · refine ⟨j1 + 1, fs1 ++ [(q.1, p.2 + q.2)], ?_, by omega, by simp only [List.length_append, List.length_cons, List.length_nil]; omega, ?_⟩
          · have mt := met_append hS1 (by rw [List.length_map]; omega) (.tup [q.1.v, .int (p.2 + q.2)])
            simp only [Lad.v] at mt
            simp [nthCs, boFor, forOf, d_both, hjl, ap, Lad.v, E, hpq, hS1, mt]
            rw [hpq] at E
            simp [E, hS1, mt]
            simp [pr]
          · rw [ha, bo, if_neg (by simp [hns]), if_pos hpq]
            simp
        · refine ⟨j1, fs1 ++ [q], ?_, e2, by simp only [List.length_append, List.length_cons, List.length_nil]; omega, ?_⟩
          · have mt := met_append hS1 (by rw [List.length_map]; omega) (.tup [q.1.v, .int q.2])
            simp only [Lad.v] at mt
            simp [nthCs, boFor, forOf, d_both, hjl, ap, Lad.v, E, hpq, hS1, mt]
            simp [pr]
          · rw [e1, bo, if_neg (by simp [hns]), if_neg hpq]
            simp
    obtain ⟨j2, fs2, s1, s2, s3, s4⟩ := step
    obtain ⟨j', fs', x', y', w, w1, w2, w3⟩ := bo_for b j2 (S.set r (.lst (fs2.map pr))) fs2 (some q.1.v) (some (.int q.2)) (fun y hy => hd y (by simp [hy])) s2 (by omega) (set_got hS _)
    refine ⟨j', fs', x', y', ?_, w1, by simp only [List.length_cons]; omega, ?_⟩
    · have B : evB (run P (k + 30)) boFor [some (.tup (A.map pr)), ot, some (.ref r), some (.int j), some q.1.v, some (.int q.2)] S = .ok .nx [some (.tup (A.map pr)), ot, some (.ref r), some (.int j2), some q.1.v, some (.int q.2)] (S.set r (.lst (fs2.map pr))) := by
        rw [hb, evB_cons, evS_wh, e, sbind_nx, evB_cons, s1, sbind_nx, evB_nil]
      have hpr : pr q = .tup [q.1.v, .int q.2] := rfl
      rw [List.map_cons, forL, guardS_nil', hpr]
      simp only [asgT_t, asgTs_cons, asgT_n, asgTs_nil, Option.bind_some, List.set_cons_succ, List.set_cons_zero, B, w, List.set_set]
    · rw [w3, s4, e4]
end
theorem both_run {P : Str → Option Fd} (k : Nat) (h : P "both" = some d_both) (h1 : P "is_less" = some d_is_less) (L M : Lad) (hL : Fit L) (hM : Fit M) : Pf (run P (k + 31)) "both" [L.v, M.v] (toLad (bo L.rows M.rows)).v := by
  intro S
  have lL := hL.len
  have lM := hM.len
  have dL := hL.dep
  have dM := hM.dep
  obtain ⟨j, fs, x, y, w, w1, w2, w3⟩ := bo_for (P := P) k h1 L.rows (fun p hp => by have := dep_rows _ L (Nat.le_refl _) p hp; omega) lL (some M.v) S.length M.rows 0 (S ++ [.lst []]) [] none none (fun p hp => by have := dep_rows _ M (Nat.le_refl _) p hp; omega) (by omega) (by simp only [List.length_nil]; omega) (got_end S _)
  rw [List.drop_zero, List.nil_append] at w3
  simp only [List.length_nil, Nat.sub_zero] at w2
  have hset : (S ++ [Ob.lst []]).set S.length (.lst (fs.map pr)) = S ++ [.lst (fs.map pr)] := by simp
  rw [hset] at w
  have t1 := tuple_ref (got_end S (Ob.lst (fs.map pr)))
  have A := add_tup (S ++ [Ob.lst (fs.map pr)]) (fs.map pr) ((L.rows.map pr).drop j) (by simp only [List.length_map, List.length_drop]; omega)
  have sl := sl_drop (S ++ [Ob.lst (fs.map pr)]) (L.rows.map pr) j
  refine ⟨S ++ [.lst (fs.map pr)], ?_, Fr.app S _⟩
  have hb : d_both.body = .cons (.set 2 (.lst .nil)) (.cons (.set 3 (.cst (.int 0))) (.cons (.for (.t [(.n 4), (.n 5)]) (.e (.var 1)) boFor) (.cons (.ret (.some (.bin .add (.blt .tuple (.cons (.var 2) .nil)) (.sl (.var 0) (.some (.var 3)) .none)))) .nil))) := rfl
  have hst : startE d_both.n [L.v, M.v] = [some L.v, some M.v, none, none, none, none] := rfl
  have s1 : evS (run P (k + 30)) (.set 2 (.lst .nil)) [some L.v, some M.v, none, none, none, none] S = .ok .nx [some L.v, some M.v, some (.ref S.length), none, none, none] (S ++ [.lst []]) := by simp
  have s2 : evS (run P (k + 30)) (.set 3 (.cst (.int 0))) [some L.v, some M.v, some (.ref S.length), none, none, none] (S ++ [.lst []]) = .ok .nx [some L.v, some M.v, some (.ref S.length), some (.int ((0 : Nat) : Int)), none, none] (S ++ [.lst []]) := by simp
  have s3 : evI (run P (k + 30)) (.e (.var 1)) [some L.v, some M.v, some (.ref S.length), some (.int ((0 : Nat) : Int)), none, none] (S ++ [.lst []]) = .ok ⟨M.rows.map pr, []⟩ (S ++ [.lst []]) := by simp [v_rows M]
  rw [run_ok h _ _ _ rfl, hb, hst, evB_cons, s1, sbind_nx, evB_cons, s2, sbind_nx, evB_cons, evS_for, s3, st_ok]
  rw [v_rows L] at *
  simp only
  rw [w, sbind_nx, v_toLad, ← w3, List.map_append, List.map_drop]
  simp only [evB_cons, evS_ret, evE_bin, evE_blt, evR_cons, evR_nil, evE_var, evE_sl, evO_some, evO_none, List.getElem?_cons_zero, List.getElem?_cons_succ, bind_ok, blt_one, t1, of_some, sl, A, st_ok, sbind_rt, fin_rt]
end Fe

/-! LadV: the law's own both; many of -/
namespace Fe
open PySem
theorem ws_nil (S : Sto) (r : Nat) (ws : List Row) (h : S[r]? = some (.lst (ws.map pr))) (hd : ∀ p ∈ ws, p.1.dep ≤ 28) : eqR S (.v (.ref r)) (.t (.lst [])) = some (decide (ws = [])) := by
  have hb : Val.belL 0 (ws.map pr) = true := by
    have := Lad.bel 0 (toLad ws)
    rwa [enc_toLad] at this
  have hs : SeqAt.shaped (.list (Val.pdL (ws.map pr))) = true := by
    have h1 := Lad.canLay (toLad ws)
    have h2 := Lad.depth_enc (toLad ws)
    have h3 := dep_toLad 28 ws hd
    rw [enc_toLad] at h1 h2
    simp [SeqAt.shaped, PyData.canLay0, h1, PyData.depth, h2]
    omega
  have hs0 : SeqAt.shaped (.list []) = true := by decide
  simp only [eqR, datR, h, hb, if_true, Val.belL, Val.pdL, hs, hs0, and_self]
  cases ws with
  | nil => simp [Val.pdL, PyData.eqv, PyData.eqvAll]
  | cons p ws => simp [Val.pdL, PyData.eqv, PyData.eqvAll]
/-- rows put together from the greatest on, the last one first -/
def mgr : List Row → List Row → List Row
  | racc, [] => racc.reverse
  | [], p :: ds => mgr [p] ds
  | q :: r, p :: ds => if q.1 = p.1 then mgr ((p.1, p.2 + q.2) :: r) ds else mgr (p :: q :: r) ds
termination_by _ ds => ds.length
theorem mgr_coef (e : Lad) : ∀ (ds racc : List Row), coef e (mgr racc ds) = coef e racc + coef e ds
  | [], racc => by simp [mgr, coef, coef_perm e (List.reverse_perm racc)]
  | p :: ds, [] => by
    rw [mgr, mgr_coef e ds]
    simp only [coef]
    omega
  | p :: ds, q :: r => by
    rw [mgr]
    split
    · rename_i h
      rw [mgr_coef e ds]
      simp only [coef, h]
      split <;> omega
    · rw [mgr_coef e ds]
      simp only [coef]
      omega
theorem rok_snoc {a : List Row} {p : Row} (h : Rok a) (hp : p.1.ok = true ∧ 1 ≤ p.2) (hl : ∀ q ∈ a, Lad.less p.1 q.1 = true) : Rok (a ++ [p]) := by
  refine ⟨?_, List.pairwise_append.mpr ⟨h.fall, List.pairwise_singleton _ _, ?_⟩⟩
  · intro x hx
    rcases List.mem_append.mp hx with hx | hx
    · exact h.each x hx
    · rw [List.mem_singleton] at hx; subst hx; exact hp
  · intro x hx y hy
    rw [List.mem_singleton] at hy; subst hy
    exact hl x hx
theorem mgr_rok : ∀ (ds racc : List Row), Rok racc.reverse → (∀ p ∈ ds, p.1.ok = true ∧ 1 ≤ p.2) → ds.Pairwise (fun a b => b.1 = a.1 ∨ Lad.less b.1 a.1 = true) → (∀ q r, racc = q :: r → ∀ p ∈ ds, p.1 = q.1 ∨ Lad.less p.1 q.1 = true) → Rok (mgr racc ds)
  | [], racc, h, _, _, _ => by rw [mgr]; exact h
  | p :: ds, [], h, hd, hp, hl => by
    rw [mgr]
    have hp' := List.pairwise_cons.mp hp
    refine mgr_rok ds [p] ⟨by intro x hx; simp at hx; subst hx; exact hd _ (by simp), by simp⟩ (fun x hx => hd x (by simp [hx])) hp'.2 ?_
    intro q r e x hx
    cases e
    exact hp'.1 x hx
  | p :: ds, q :: r, h, hd, hp, hl => by
    have hp' := List.pairwise_cons.mp hp
    rw [List.reverse_cons] at h
    have hf := List.pairwise_append.mp h.fall
    have hq := h.each q (by simp)
    have hr : Rok r.reverse := ⟨fun x hx => h.each x (by simp at hx; simp [hx]), hf.1⟩
    have hqr : ∀ x ∈ r.reverse, Lad.less q.1 x.1 = true := fun x hx => hf.2.2 x hx q (by simp)
    have hpp := hd p (by simp)
    rw [mgr]
    split
    · rename_i c
      refine mgr_rok ds _ ?_ (fun x hx => hd x (by simp [hx])) hp'.2 ?_
      · rw [List.reverse_cons]
        exact rok_snoc hr ⟨hpp.1, by show 1 ≤ p.2 + q.2; omega⟩ (fun x hx => by show Lad.less p.1 x.1 = true; rw [← c]; exact hqr x hx)
      · intro q' r' e x hx
        cases e
        exact hp'.1 x hx
    · rename_i c
      have hpq : Lad.less p.1 q.1 = true := by
        rcases hl q r rfl p (by simp) with e | e
        · exact absurd e.symm c
        · exact e
      refine mgr_rok ds _ ?_ (fun x hx => hd x (by simp [hx])) hp'.2 ?_
      · rw [List.reverse_cons, List.reverse_cons]
        refine rok_snoc h hpp ?_
        intro x hx
        rcases List.mem_append.mp hx with hx | hx
        · exact Lad.less_trans _ _ _ hpq (hqr x hx)
        · rw [List.mem_singleton] at hx; subst hx; exact hpq
      · intro q' r' e x hx
        cases e
        exact hp'.1 x hx
theorem srt_desc (rs : List Row) : (srt rs).reverse.Pairwise fun a b => b.1 = a.1 ∨ Lad.less b.1 a.1 = true := by
  refine List.pairwise_reverse.mpr ((srt_sorted rs).imp ?_)
  intro a b h
  simp only [ple, Bool.not_eq_true', plt] at h
  by_cases c : b.1 = a.1
  · exact .inl c.symm
  · rw [if_neg c] at h
    right
    cases h3 : Lad.less a.1 b.1 with
    | true => rfl
    | false => exact absurd (Lad.less_tri _ _ h3 h).symm c
theorem mgr_bo {a b : List Row} (ha : Rok a) (hb : Rok b) : mgr [] (srt (a ++ b)).reverse = bo a b := by
  have hm : ∀ p ∈ (srt (a ++ b)).reverse, p ∈ a ++ b := fun p hp => (srt_perm _).mem_iff.mp (List.mem_reverse.mp hp)
  refine ext_rows _ _ (mgr_rok _ [] ⟨by simp, by simp⟩ ?_ (srt_desc _) (by intro q r e; cases e)) (bo_rok _ a b (Nat.le_refl _) ha hb) ?_
  · intro p hp
    rcases List.mem_append.mp (hm p hp) with h | h
    · exact ha.each p h
    · exact hb.each p h
  · intro e
    rw [mgr_coef, coef_bo e _ a b (Nat.le_refl _), coef_perm e (List.reverse_perm _), coef_perm e (srt_perm _), coef_app]
    simp [coef]
def lbo : Cs := forOf (nthCs d__law_both.body 1)
theorem met_pop {S : Sto} {l : Nat} {xs : List Val} {x : Val} (h : S[l]? = some (.lst (xs ++ [x]))) : metR .pop l [] S = some (.v x, S.set l (.lst xs)) := by
  simp only [metR, h]
  simp
theorem lbo_for (T : Fns) (v0 v1 : Option Val) (r : Nat) : ∀ (ds racc : List Row) (S : Sto) (x y : Option Val), (∀ p ∈ ds, p.1.dep ≤ 28) → (∀ p ∈ racc, p.1.dep ≤ 28) → racc.length + ds.length ≤ 1000000 → S[r]? = some (.lst (racc.reverse.map pr)) →
    ∃ x' y', forL (evB T lbo) (.t [.n 3, .n 4]) [] (ds.map pr) [v0, v1, some (.ref r), x, y] S = .ok .nx [v0, v1, some (.ref r), x', y'] (S.set r (.lst ((mgr racc ds).map pr)))
  | [], racc, S, x, y, _, _, _, hS => ⟨x, y, by simp only [List.map_nil, forL, guardS_nil', mgr, set_eq hS]⟩
  | p :: ds, racc, S, x, y, hd, hr, hl, hS => by
    simp only [List.length_cons] at hl
    have dp := hd p (by simp)
    have hpr : pr p = .tup [.tup p.1.enc, .int p.2] := rfl
    have E := ws_nil S r racc.reverse hS (fun q hq => hr q (List.mem_reverse.mp hq))
    have fin : ∀ (racc' : List Row) (n : Int), (∀ q ∈ racc', q.1.dep ≤ 28) → racc'.length ≤ racc.length + 1 → mgr racc' ds = mgr racc (p :: ds) → evB T lbo [v0, v1, some (.ref r), some (.tup p.1.enc), some (.int p.2)] S = .ok .nx [v0, v1, some (.ref r), some (.tup p.1.enc), some (.int n)] (S.set r (.lst (racc'.reverse.map pr))) → ∃ x' y', forL (evB T lbo) (.t [.n 3, .n 4]) [] ((p :: ds).map pr) [v0, v1, some (.ref r), x, y] S = .ok .nx [v0, v1, some (.ref r), x', y'] (S.set r (.lst ((mgr racc (p :: ds)).map pr))) := by
      intro racc' n h1 h2 h3 h4
      obtain ⟨x', y', w⟩ := lbo_for T v0 v1 r ds racc' (S.set r (.lst (racc'.reverse.map pr))) (some (.tup p.1.enc)) (some (.int n)) (fun q hq => hd q (by simp [hq])) h1 (by omega) (set_got hS _)
      refine ⟨x', y', ?_⟩
      rw [List.map_cons, forL, guardS_nil', hpr]
      simp only [asgT_t, asgTs_cons, asgT_n, asgTs_nil, Option.bind_some, List.set_cons_succ, List.set_cons_zero, h4, w, List.set_set, h3]
    cases racc with
    | nil =>
      refine fin [p] p.2 (by intro q hq; simp at hq; subst hq; exact dp) (by simp) (by rw [mgr]) ?_
      have E' : eqR S (.v (.ref r)) (.t (.lst [])) = some true := by rw [E]; simp
      have mt := met_append hS (by simp) (.tup [.tup p.1.enc, .int p.2])
      simp [lbo, forOf, nthCs, d__law_both, E', hS, mt]
      simp [pr]
    | cons q r' =>
      have dq := hr q (by simp)
      have E' : eqR S (.v (.ref r)) (.t (.lst [])) = some false := by rw [E]; simp
      have hS' : S[r]? = some (.lst (r'.reverse.map pr ++ [.tup [.tup q.1.enc, .int q.2]])) := by rw [hS]; simp [pr]
      have al : L2.atI (r'.reverse.map pr ++ [Val.tup [.tup q.1.enc, .int q.2]]) (-1) = some (.tup [.tup q.1.enc, .int q.2]) := L2.atI_last _ _
      have eq := Lad.eqR_enc S q.1 p.1 (by omega) (by omega)
      simp only [List.length_cons] at hl
      by_cases c : q.1 = p.1
      · refine fin ((p.1, p.2 + q.2) :: r') (p.2 + q.2) (by
          intro x hx
          rcases List.mem_cons.mp hx with rfl | hx
          · exact dp
          · exact hr x (by simp [hx])) (by simp) (by rw [mgr, if_pos c]) ?_
        have pp := met_pop hS'
        have hS2 : (S.set r (.lst (r'.reverse.map pr)))[r]? = some (.lst (r'.reverse.map pr)) := set_got hS _
        have mt := met_append hS2 (by simp; omega) (.tup [.tup p.1.enc, .int (p.2 + q.2)])
        rw [c] at al eq pp hS'
        simp at eq
        simp only [lbo, forOf, nthCs, d__law_both, evB_cons, evS_ite, evT_and, evT_cmp, evE_cmp, evE_var, evE_lst, evA_nil, List.getElem?_cons_zero, List.getElem?_cons_succ, bind_ok, cmp_ne, E', Option.map_some, of_some, tru_bl, evE_ix, evE_neg, evE_cst, ix_ref hS', al, ix_tup, atI_zero, cmp_eq, eq, st_ok, Bool.not_false, if_true, evS_set, evE_bin, evE_met, hS', pp, atI_one, bin_add, lay_v, sbind_nx, evB_nil, evS_ex, evA_cons, evE_tup, List.set_cons_succ, List.set_cons_zero, hS2, mt, List.set_set]
        simp [pr]
      · refine fin (p :: q :: r') p.2 (by
          intro x hx
          rcases List.mem_cons.mp hx with rfl | hx
          · exact dp
          · exact hr x hx) (by simp) (by rw [mgr, if_neg c]) ?_
        have mt := met_append hS' (by simp; omega) (.tup [.tup p.1.enc, .int p.2])
        simp [c] at eq
        simp only [lbo, forOf, nthCs, d__law_both, evB_cons, evS_ite, evT_and, evT_cmp, evE_cmp, evE_var, evE_lst, evA_nil, List.getElem?_cons_zero, List.getElem?_cons_succ, bind_ok, cmp_ne, E', Option.map_some, of_some, tru_bl, evE_ix, evE_neg, evE_cst, ix_ref hS', al, ix_tup, atI_zero, cmp_eq, eq, st_ok, Bool.not_false, if_true, Bool.false_eq_true, if_false, sbind_nx, evB_nil, evS_ex, evE_met, hS', evA_cons, evE_tup, lay_v, mt]
        simp [pr]
theorem lboth_run {P : Str → Option Fd} (k : Nat) (h : P "_law_both" = some d__law_both) (L M : Lad) (hL : Fit L) (hM : Fit M) (oL : L.ok = true) (oM : M.ok = true) : Pf (run P (k + 1)) "_law_both" [L.v, M.v] (toLad (bo L.rows M.rows)).v := by
  intro S
  have lL := hL.len
  have lM := hM.len
  have dL := hL.dep
  have dM := hM.dep
  have hdep : ∀ p ∈ L.rows ++ M.rows, p.1.dep ≤ 28 := by
    intro p hp
    rcases List.mem_append.mp hp with hp | hp
    · have := dep_rows _ L (Nat.le_refl _) p hp; omega
    · have := dep_rows _ M (Nat.le_refl _) p hp; omega
  have so := sortOk_rows (L.rows ++ M.rows) hdep (by rw [List.length_append]; omega)
  have A := add_tup (S ++ [Ob.lst []]) (L.rows.map pr) (M.rows.map pr) (by simp only [List.length_map]; omega)
  rw [← List.map_append] at A
  have sr : blt1 (S ++ [Ob.lst []]) .sorted (.v (.tup ((L.rows ++ M.rows).map pr))) = some (.t (.lst ((srt (L.rows ++ M.rows)).map pr))) := by
    simp only [blt1, seqOf, Option.bind_some, so, if_true, sortV_rows]
  have rv : revR (S ++ [Ob.lst []]) (.t (.lst ((srt (L.rows ++ M.rows)).map pr))) = some (.t (.lst ((srt (L.rows ++ M.rows)).reverse.map pr))) := by
    simp [revR, lstOf, lstW]
  have hpm := srt_perm (L.rows ++ M.rows)
  obtain ⟨x, y, w⟩ := lbo_for (run P k) (some L.v) (some M.v) S.length (srt (L.rows ++ M.rows)).reverse [] (S ++ [.lst []]) none none (fun p hp => hdep p (hpm.mem_iff.mp (List.mem_reverse.mp hp))) (by simp) (by
    have := hpm.length_eq
    simp only [List.length_nil, List.length_reverse, this, List.length_append]; omega) (got_end S _)
  rw [mgr_bo (rok_of oL) (rok_of oM)] at w
  have hset : (S ++ [Ob.lst []]).set S.length (.lst ((bo L.rows M.rows).map pr)) = S ++ [.lst ((bo L.rows M.rows).map pr)] := by simp
  rw [hset] at w
  have t1 := tuple_ref (got_end S (Ob.lst ((bo L.rows M.rows).map pr)))
  refine ⟨S ++ [.lst ((bo L.rows M.rows).map pr)], ?_, Fr.app S _⟩
  have hb : d__law_both.body = .cons (.set 2 (.lst .nil)) (.cons (.for (.t [(.n 3), (.n 4)]) (.e (.rev (.blt .sorted (.cons (.bin .add (.var 0) (.var 1)) .nil)))) lbo) (.cons (.ret (.some (.blt .tuple (.cons (.var 2) .nil)))) .nil)) := rfl
  have hst : startE d__law_both.n [L.v, M.v] = [some L.v, some M.v, none, none, none] := rfl
  have s1 : evS (run P k) (.set 2 (.lst .nil)) [some L.v, some M.v, none, none, none] S = .ok .nx [some L.v, some M.v, some (.ref S.length), none, none] (S ++ [.lst []]) := by simp
  have s2 : evI (run P k) (.e (.rev (.blt .sorted (.cons (.bin .add (.var 0) (.var 1)) .nil)))) [some L.v, some M.v, some (.ref S.length), none, none] (S ++ [.lst []]) = .ok ⟨(srt (L.rows ++ M.rows)).reverse.map pr, []⟩ (S ++ [.lst []]) := by
    rw [v_rows L, v_rows M]
    simp only [evI_e, evE_rev, evE_blt, evR_cons, evR_nil, evE_bin, evE_var, List.getElem?_cons_zero, List.getElem?_cons_succ, bind_ok, A, of_some, blt_one, sr, rv, src_tmp]
  rw [run_ok h _ _ _ rfl, hb, hst, evB_cons, s1, sbind_nx, evB_cons, evS_for, s2, st_ok]
  simp only
  rw [w, sbind_nx, v_toLad]
  simp [t1]
/-! ### many of -/
def tms (n : Int) (a : List Row) : List Row := a.map fun p => (p.1, p.2 * n)
theorem comp_rows (T : Fns) (own : List Nat) (i j : Nat) (it : It) (cd : Eo) (a : E) (env : Env) (S : Sto) (rs : List Row) (g : Row → Val) (p : Row → Bool) (hi : evI T it env S = .ok ⟨rs.map pr, []⟩ S) (hl : rs.length ≤ 16000000) (hc : ∀ x ∈ rs, evC T cd (((wipeE env own).set i (some x.1.v)).set j (some (.int x.2))) S = .ok (p x) S) (ha : ∀ x ∈ rs, p x = true → evE T a (((wipeE env own).set i (some x.1.v)).set j (some (.int x.2))) S = .ok (.v (g x)) S) : evE T (.comp own (.t [.n i, .n j]) it cd a) env S = .ok (.t (.lst ((rs.filter p).map g))) S := by
  have key : ∀ (ys : List Row), (∀ y ∈ ys, y ∈ rs) → ∀ acc, compL (evC T cd) (evE T a) (.t [.n i, .n j]) (wipeE env own) [] (ys.map pr) acc S = .ok (.t (.lst (acc ++ (ys.filter p).map g))) S := by
    intro ys
    induction ys with
    | nil => intro _ acc; simp [compL]
    | cons y ys ih =>
      intro hy acc
      have h1 := hc y (hy y (by simp))
      have ih' := ih fun z hz => hy z (by simp [hz])
      have hpr : pr y = .tup [y.1.v, .int y.2] := rfl
      rw [List.map_cons, compL, guardL_nil', hpr]
      simp only [asgT_t, asgTs_cons, asgT_n, asgTs_nil, Option.bind_some, h1, bind_ok]
      cases hp : p y
      · rw [if_neg (by simp), ih']
        simp [List.filter, hp]
      · rw [if_pos rfl, ha y (hy y (by simp)) hp]
        simp only [bind_ok, lay_v]
        rw [ih']
        simp [List.filter, hp]
  have hl' : (rs.map pr).length ≤ sizeLine := le_line (by rw [List.length_map]; exact hl)
  rw [evE_comp, hi]
  simp only [bind_ok, if_pos hl', key rs (fun _ h => h), nox_ok, List.nil_append]
theorem filt_all {α : Type} (a : List α) : a.filter (fun _ => true) = a := List.filter_eq_self.mpr fun _ _ => rfl
theorem times_run {P : Str → Option Fd} (k : Nat) (h : P "_law_times" = some d__law_times) (L : Lad) (hL : Fit L) (n : Int) (hm : ∀ p ∈ L.rows, mulOk p.2 n = true) : Pf (run P (k + 1)) "_law_times" [L.v, .int n] (toLad (if 0 < n then tms n L.rows else [])).v := by
  intro S
  have lL := hL.len
  have C := comp_rows (run P k) [2, 3] 2 3 (.e (.var 0)) (.some (.cmp .gt (.var 1) (.cst (.int 0)))) (.tup (.cons (.var 2) (.cons (.bin .mul (.var 3) (.var 1)) .nil))) [some L.v, some (.int n), none, none] S L.rows (fun p => pr (p.1, p.2 * n)) (fun _ => decide (0 < n)) (by simp [v_rows L]) (by omega) (by intro x hx; simp [evC_some]) (by
    intro x hx _
    simp [bin_mul S x.2 n (hm x hx), pr, Lad.v])
  refine ⟨S, ?_, Fr.refl _ _⟩
  rw [run_ok h _ _ _ rfl]
  by_cases hn : 0 < n
  · simp only [hn, decide_true, filt_all] at C
    rw [if_pos hn, v_toLad]
    simp [d__law_times, startE, C, tms, Function.comp_def]
  · have hf : L.rows.filter (fun _ => decide (0 < n)) = [] := by simp [hn]
    rw [hf] at C
    rw [if_neg hn, v_toLad]
    simp [d__law_times, startE, C]
theorem many_of_run {P : Str → Option Fd} (k : Nat) (h : P "many_of" = some d_many_of) (L : Lad) (hL : Fit L) (n : Int) (hm : ∀ p ∈ L.rows, mulOk p.2 n = true) : Pf (run P (k + 1)) "many_of" [L.v, .int n] (toLad (if n = 0 then [] else tms n L.rows)).v := by
  intro S
  have lL := hL.len
  have C := comp_rows (run P k) [2, 3] 2 3 (.e (.var 0)) .none (.tup (.cons (.var 2) (.cons (.bin .mul (.var 3) (.var 1)) .nil))) [some L.v, some (.int n), none, none] S L.rows (fun p => pr (p.1, p.2 * n)) (fun _ => true) (by simp [v_rows L]) (by omega) (by intro x hx; rfl) (by
    intro x hx _
    simp [bin_mul S x.2 n (hm x hx), pr, Lad.v])
  refine ⟨S, ?_, Fr.refl _ _⟩
  rw [run_ok h _ _ _ rfl]
  by_cases hn : n = 0
  · rw [if_pos hn, v_toLad]
    simp [d_many_of, startE, hn]
  · rw [if_neg hn, v_toLad]
    rw [filt_all] at C
    simp [d_many_of, startE, C, hn, tms, Function.comp_def]
theorem tms_rok {a : List Row} (h : Rok a) (n : Int) (hn : 1 ≤ n) : Rok (tms n a) := by
  refine ⟨?_, ?_⟩
  · intro p hp
    obtain ⟨q, hq, rfl⟩ := List.mem_map.mp hp
    have := h.each q hq
    refine ⟨this.1, ?_⟩
    have := Int.mul_le_mul this.2 hn (by omega) (by omega)
    simpa using this
  · exact List.pairwise_map.mpr h.fall
theorem rsz_tms (n : Int) : ∀ a : List Row, rsz (tms n a) = rsz a
  | [] => rfl
  | p :: a => by
    have := rsz_tms n a
    simp only [tms, List.map_cons, rsz] at this ⊢
    omega
theorem dep_tms (n : Int) (a : List Row) (d : Nat) (h : ∀ p ∈ a, p.1.dep + 1 ≤ d) : ∀ p ∈ tms n a, p.1.dep + 1 ≤ d := by
  intro p hp
  obtain ⟨q, hq, rfl⟩ := List.mem_map.mp hp
  exact h q hq
end Fe

/-! LadW: the order of ladders by what stands at exponents -/
namespace Fe
open PySem
theorem mul_big {x y : Int} (hx : 0 ≤ x) (hx' : x ≤ 10 ^ 70) (hy : 0 ≤ y) (hy' : y ≤ 10 ^ 70) : mulOk x y = true := by
  have lg : ∀ z : Int, 0 ≤ z → z ≤ 10 ^ 70 → z.natAbs.log2 ≤ 250 := by
    intro z h1 h2
    by_cases h0 : z.natAbs = 0
    · rw [h0]; decide
    · have h3 : z.natAbs < 2 ^ 250 := by
        have h4 : (10 : Int) ^ 70 < 2 ^ 250 := by decide
        have h5 : (z.natAbs : Int) < ((2 ^ 250 : Nat) : Int) := by
          have h6 : ((2 ^ 250 : Nat) : Int) = (2 : Int) ^ 250 := by decide
          omega
        exact Int.ofNat_lt.mp h5
      have := (Nat.log2_lt h0).mpr h3
      omega
  have h1 := lg x hx hx'
  have h2 := lg y hy hy'
  have h3 : x.natAbs.log2 + y.natAbs.log2 + 2 ≤ 1000000 := by omega
  simp only [mulOk, decide_eq_true h3, Bool.or_true]
theorem big_le : big ≤ 10 ^ 70 := by decide
/-- no exponent of the rows is above -/
theorem coef_above {p : Row} {r : List Row} (h : Rok (p :: r)) {x : Lad} (hx : Lad.less p.1 x = true) : coef x (p :: r) = 0 := by
  refine coef_none _ _ fun q hq e => ?_
  rcases List.mem_cons.mp hq with rfl | hq
  · rw [e, Lad.less_irr] at hx; cases hx
  · have h1 := (List.pairwise_cons.mp h.fall).1 q hq
    rw [e] at h1
    rw [Lad.less_asym _ _ h1] at hx
    cases hx
theorem less_coef1 : ∀ (r r' : List Row), Rok r → Rok r' → Lad.less (toLad r) (toLad r') = true → ∃ e, coef e r < coef e r' ∧ ∀ x, Lad.less e x = true → coef x r = coef x r'
  | r, [], _, _, h => by simp [toLad, Lad.less] at h
  | [], q :: s, _, h', _ => by
    refine ⟨q.1, ?_, ?_⟩
    · rw [h'.coef_head]
      have := (h'.each q (by simp)).2
      simp only [coef]
      omega
    · intro x hx
      rw [coef_above h' hx]
      rfl
  | p :: a, q :: b, h, h', hl => by
    simp only [toLad, Lad.less] at hl
    by_cases he : p.1 = q.1
    · rw [if_pos he] at hl
      by_cases hn : p.2 = q.2
      · rw [if_pos hn] at hl
        obtain ⟨e, h1, h2⟩ := less_coef1 a b h.tail h'.tail hl
        refine ⟨e, ?_, ?_⟩
        · simp only [coef, he, hn]; omega
        · intro x hx
          simp only [coef, he, hn, h2 x hx]
      · rw [if_neg hn] at hl
        refine ⟨p.1, ?_, ?_⟩
        · rw [h.coef_head, he, h'.coef_head]
          simpa using hl
        · intro x hx
          rw [coef_above h hx, coef_above h' (by rw [← he]; exact hx)]
    · rw [if_neg he] at hl
      refine ⟨q.1, ?_, ?_⟩
      · rw [coef_above h hl, h'.coef_head]
        have := (h'.each q (by simp)).2
        omega
      · intro x hx
        rw [coef_above h' hx, coef_above h (Lad.less_trans _ _ _ hl hx)]
theorem less_coef {r r' : List Row} (h : Rok r) (h' : Rok r') : Lad.less (toLad r) (toLad r') = true ↔ ∃ e, coef e r < coef e r' ∧ ∀ x, Lad.less e x = true → coef x r = coef x r' := by
  refine ⟨less_coef1 r r' h h', ?_⟩
  rintro ⟨e, h1, h2⟩
  cases hl : Lad.less (toLad r) (toLad r') with
  | true => rfl
  | false =>
    cases hl' : Lad.less (toLad r') (toLad r) with
    | false =>
      have := Lad.less_tri _ _ hl hl'
      have := congrArg Lad.rows this
      rw [rows_toLad, rows_toLad] at this
      rw [this] at h1
      omega
    | true =>
      obtain ⟨e', h3, h4⟩ := less_coef1 r' r h' h hl'
      cases ha : Lad.less e e' with
      | true => have := h2 e' ha; omega
      | false =>
        cases hb : Lad.less e' e with
        | true => have := h4 e hb; omega
        | false =>
          have := Lad.less_tri _ _ ha hb
          subst this
          omega
theorem less_coef_f {r r' : List Row} (h : Rok r) (h' : Rok r') : Lad.less (toLad r) (toLad r') = false ↔ r = r' ∨ ∃ e, coef e r' < coef e r ∧ ∀ x, Lad.less e x = true → coef x r' = coef x r := by
  constructor
  · intro hl
    cases hl' : Lad.less (toLad r') (toLad r) with
    | true => exact .inr ((less_coef h' h).mp hl')
    | false =>
      have := congrArg Lad.rows (Lad.less_tri _ _ hl hl')
      rw [rows_toLad, rows_toLad] at this
      exact .inl this
  · rintro (rfl | h1)
    · exact Lad.less_irr _
    · exact Lad.less_asym _ _ ((less_coef h' h).mpr h1)
/-! ### behind, by what stands at exponents -/
theorem coef_filter (g : Lad → Bool) (x : Lad) : ∀ a : List Row, coef x (a.filter fun p => g p.1) = if g x = true then coef x a else 0
  | [] => by simp [coef]
  | p :: a => by
    have ih := coef_filter g x a
    by_cases hg : g p.1 = true
    · simp only [List.filter, hg, coef, ih]
      by_cases e : p.1 = x
      · subst e; simp [hg]
      · by_cases hx : g x = true
        · simp [hx]
        · simp [hx, e]
    · simp only [List.filter, hg, coef, ih]
      by_cases e : p.1 = x
      · subst e; simp [hg]
      · simp [e]
theorem coef_beh {a ts : List Row} {q : Row} (hb : Rok (q :: ts)) (x : Lad) : coef x (beh a (q :: ts)) = if Lad.less q.1 x = true then coef x a else if x = q.1 then coef x a + coef x (q :: ts) else coef x (q :: ts) := by
  simp only [beh, coef_app, coef_filter (fun y => Lad.less q.1 y) x a, coef]
  by_cases h1 : Lad.less q.1 x = true
  · have h2 : ¬ q.1 = x := fun e => by rw [e, Lad.less_irr] at h1; cases h1
    have h3 := coef_above hb h1
    simp only [coef, if_neg h2] at h3
    simp only [if_pos h1, if_neg h2]
    omega
  · rw [if_neg h1, if_neg h1]
    by_cases h2 : x = q.1
    · subst h2
      simp only [if_true]
      omega
    · have h3 : ¬ q.1 = x := fun e => h2 e.symm
      simp only [if_neg h2, if_neg h3]
      omega
theorem beh_rok {a b : List Row} (ha : Rok a) (hb : Rok b) : Rok (beh a b) := by
  cases b with
  | nil => exact ha
  | cons q ts =>
    have hq := hb.each q (by simp)
    have hc := ha.nn q.1
    have hf := List.pairwise_cons.mp hb.fall
    have h1 : Rok (a.filter fun p => Lad.less q.1 p.1) := ⟨fun p hp => ha.each p (List.mem_filter.mp hp).1, ha.fall.sublist List.filter_sublist⟩
    have h2 : Rok ((a.filter fun p => Lad.less q.1 p.1) ++ [(q.1, coef q.1 a + q.2)]) := rok_snoc h1 ⟨hq.1, by show 1 ≤ coef q.1 a + q.2; omega⟩ (fun p hp => (List.mem_filter.mp hp).2)
    refine ⟨?_, List.pairwise_append.mpr ⟨h2.fall, hf.2, ?_⟩⟩
    · intro p hp
      rcases List.mem_append.mp hp with hp | hp
      · exact h2.each p hp
      · exact hb.each p (by simp [hp])
    · intro p hp y hy
      have hy1 := hf.1 y hy
      rcases List.mem_append.mp hp with hp | hp
      · exact Lad.less_trans _ _ _ hy1 (List.mem_filter.mp hp).2
      · rw [List.mem_singleton] at hp
        subst hp
        exact hy1
theorem rsz_beh (a b : List Row) : rsz (beh a b) ≤ rsz a + rsz b := by
  cases b with
  | nil => simp [beh, rsz]
  | cons q ts =>
    have := rsz_filter (fun p => Lad.less q.1 p.1) a
    simp only [beh, rsz_append, rsz]
    omega
theorem dep_beh {a b : List Row} {d : Nat} (ha : ∀ p ∈ a, p.1.dep + 1 ≤ d) (hb : ∀ p ∈ b, p.1.dep + 1 ≤ d) : ∀ p ∈ beh a b, p.1.dep + 1 ≤ d := by
  cases b with
  | nil => exact ha
  | cons q ts =>
    intro p hp
    simp only [beh, List.mem_append, List.mem_singleton] at hp
    rcases hp with (hp | rfl) | hp
    · exact ha p (List.mem_filter.mp hp).1
    · exact hb q (by simp)
    · exact hb p (by simp [hp])
theorem coef_tms (x : Lad) (n : Int) : ∀ a : List Row, coef x (tms n a) = coef x a * n
  | [] => by simp [tms, coef]
  | p :: a => by
    have ih := coef_tms x n a
    simp only [tms, List.map_cons, coef] at ih ⊢
    rw [ih, Int.add_mul]
    split
    · rfl
    · simp
end Fe

/-! LadX: behind grows; what is left -/
namespace Fe
open PySem
theorem rok_nil : Rok [] := ⟨by simp, by simp⟩
theorem less_tot {a b : Lad} (h : Lad.less a b = false) (hn : a ≠ b) : Lad.less b a = true := by
  cases h2 : Lad.less b a with
  | true => rfl
  | false => exact absurd (Lad.less_tri _ _ h h2) hn
theorem coef_beh_nil (a : List Row) (x : Lad) : coef x (beh a []) = coef x a := rfl
/-- behind grows with what stands behind -/
theorem beh_mono {a b c : List Row} (ha : Rok a) (hb : Rok b) (hc : Rok c) (h : Lad.less (toLad b) (toLad c) = true) : Lad.less (toLad (beh a b)) (toLad (beh a c)) = true := by
  refine (less_coef (beh_rok ha hb) (beh_rok ha hc)).mpr ?_
  cases c with
  | nil => simp [toLad, Lad.less] at h
  | cons q cs =>
    have hq := (hc.each q (by simp)).2
    cases b with
    | nil =>
      refine ⟨q.1, ?_, ?_⟩
      · rw [coef_beh_nil, coef_beh hc, if_neg (by rw [Lad.less_irr]; simp), if_pos rfl, hc.coef_head]
        omega
      · intro x hx
        rw [coef_beh_nil, coef_beh hc, if_pos hx]
    | cons p bs =>
      by_cases hpq : p.1 = q.1
      · obtain ⟨e, h1, h2⟩ := (less_coef hb hc).mp h
        refine ⟨e, ?_, ?_⟩
        · rw [coef_beh hb, coef_beh hc, hpq]
          by_cases c1 : Lad.less q.1 e = true
          · rw [coef_above hb (by rw [hpq]; exact c1), coef_above hc c1] at h1
            omega
          · rw [if_neg c1, if_neg c1]
            by_cases c2 : e = q.1
            · rw [if_pos c2, if_pos c2]; omega
            · rw [if_neg c2, if_neg c2]; exact h1
        · intro x hx
          rw [coef_beh hb, coef_beh hc, hpq, h2 x hx]
      · have hlt : Lad.less p.1 q.1 = true := by
          simp only [toLad, Lad.less, if_neg hpq] at h
          exact h
        refine ⟨q.1, ?_, ?_⟩
        · rw [coef_beh hb, coef_beh hc, if_pos hlt, if_neg (by rw [Lad.less_irr]; simp), if_pos rfl, hc.coef_head]
          omega
        · intro x hx
          rw [coef_beh hb, coef_beh hc, if_pos hx, if_pos (Lad.less_trans _ _ _ hlt hx)]
theorem beh_mono_iff {a b c : List Row} (ha : Rok a) (hb : Rok b) (hc : Rok c) : Lad.less (toLad (beh a b)) (toLad (beh a c)) = Lad.less (toLad b) (toLad c) := by
  cases h : Lad.less (toLad b) (toLad c) with
  | true => exact beh_mono ha hb hc h
  | false =>
    cases h2 : Lad.less (toLad c) (toLad b) with
    | true => exact Lad.less_asym _ _ (beh_mono ha hc hb h2)
    | false =>
      have := congrArg Lad.rows (Lad.less_tri _ _ h h2)
      rw [rows_toLad, rows_toLad] at this
      rw [this]
      exact Lad.less_irr _
/-! ### what is left -/
def rst : List Row → List Row → List Row
  | [], b => b
  | _ :: _, [] => []
  | p :: a, q :: b => if p = q then rst a b else if p.1 = q.1 then (p.1, q.2 - p.2) :: b else q :: b
theorem rst_ok : ∀ (a b : List Row), Rok a → Rok b → Lad.less (toLad b) (toLad a) = false → Rok (rst a b) ∧ beh a (rst a b) = b ∧ (∀ x ∈ rst a b, ∃ y ∈ b, y.1 = x.1) ∧ rsz (rst a b) ≤ rsz b ∧ (∀ x ∈ rst a b, ∃ y ∈ b, x.2 ≤ y.2)
  | [], b, ha, hb, _ => ⟨hb, by
      cases b with
      | nil => rfl
      | cons q ts => simp [rst, beh, coef], fun x hx => ⟨x, hx, rfl⟩, Nat.le_refl _, fun x hx => ⟨x, hx, Int.le_refl _⟩⟩
  | p :: a, [], _, _, h => by simp [toLad, Lad.less] at h
  | p :: a, q :: b, ha, hb, h => by
    rw [rst]
    by_cases hpq : p = q
    · subst hpq
      rw [if_pos rfl]
      simp only [toLad, Lad.less, if_true] at h
      obtain ⟨h1, h2, h3, h4, h5⟩ := rst_ok a b ha.tail hb.tail h
      refine ⟨h1, ?_, fun x hx => ?_, by simp only [rsz]; omega, fun x hx => ?_⟩
      · cases hr : rst a b with
        | nil =>
          rw [hr] at h2
          simp only [beh] at h2 ⊢
          rw [h2]
        | cons z zs =>
          rw [hr] at h2 h3
          obtain ⟨y, hy, hyz⟩ := h3 z (by simp)
          have hl : Lad.less z.1 p.1 = true := by
            rw [← hyz]
            exact (List.pairwise_cons.mp hb.fall).1 y hy
          have hne : ¬ p.1 = z.1 := fun e => by rw [e, Lad.less_irr] at hl; cases hl
          simp only [beh, List.filter, hl, coef, if_neg hne] at h2 ⊢
          rw [← h2]
          simp
      · obtain ⟨y, hy, e⟩ := h3 x hx
        exact ⟨y, by simp [hy], e⟩
      · obtain ⟨y, hy, e⟩ := h5 x hx
        exact ⟨y, by simp [hy], e⟩
    · rw [if_neg hpq]
      have hp := (ha.each p (by simp)).2
      have hf := List.pairwise_cons.mp hb.fall
      by_cases he : p.1 = q.1
      · rw [if_pos he]
        have hn : ¬ q.2 = p.2 := fun e => hpq (Prod.ext he e.symm)
        simp only [toLad, Lad.less, he, if_true, if_neg hn] at h
        have hlt : p.2 < q.2 := by
          have : ¬ q.2 < p.2 := by simpa using h
          omega
        have hq := hb.each q (by simp)
        refine ⟨⟨fun x hx => ?_, List.pairwise_cons.mpr ⟨fun x hx => ?_, hf.2⟩⟩, ?_, fun x hx => ?_, ?_, fun x hx => ?_⟩
        · rcases List.mem_cons.mp hx with rfl | hx
          · exact ⟨by show p.1.ok = true; rw [he]; exact hq.1, by show 1 ≤ q.2 - p.2; omega⟩
          · exact hb.each x (by simp [hx])
        · show Lad.less x.1 p.1 = true
          rw [he]
          exact hf.1 x hx
        · have hfil : (p :: a).filter (fun y => Lad.less p.1 y.1) = [] := by
            rw [List.filter_eq_nil_iff]
            intro y hy
            rcases List.mem_cons.mp hy with rfl | hy
            · rw [Lad.less_irr]; simp
            · rw [Lad.less_asym _ _ ((List.pairwise_cons.mp ha.fall).1 y hy)]; simp
          simp only [beh, hfil, ha.coef_head]
          have : q = (p.1, p.2 + (q.2 - p.2)) := Prod.ext he.symm (by show q.2 = p.2 + (q.2 - p.2); omega)
          rw [← this]
          rfl
        · rcases List.mem_cons.mp hx with rfl | hx
          · exact ⟨q, by simp, he.symm⟩
          · exact ⟨x, by simp [hx], rfl⟩
        · simp only [rsz, he]; omega
        · rcases List.mem_cons.mp hx with rfl | hx
          · exact ⟨q, by simp, by show q.2 - p.2 ≤ q.2; omega⟩
          · exact ⟨x, by simp [hx], Int.le_refl _⟩
      · rw [if_neg he]
        have he' : ¬ q.1 = p.1 := fun e => he e.symm
        simp only [toLad, Lad.less, if_neg he'] at h
        have hlt : Lad.less p.1 q.1 = true := less_tot h he'
        refine ⟨hb, ?_, fun x hx => ⟨x, hx, rfl⟩, Nat.le_refl _, fun x hx => ⟨x, hx, Int.le_refl _⟩⟩
        have hfil : (p :: a).filter (fun y => Lad.less q.1 y.1) = [] := by
          rw [List.filter_eq_nil_iff]
          intro y hy
          rcases List.mem_cons.mp hy with rfl | hy
          · rw [Lad.less_asym _ _ hlt]; simp
          · rw [Lad.less_asym _ _ (Lad.less_trans _ _ _ ((List.pairwise_cons.mp ha.fall).1 y hy) hlt)]; simp
        simp only [beh, hfil, coef_above ha hlt]
        simp
end Fe

/-! LadY: is it a ladder? of any thing -/
namespace Fe
open PySem
def isT : Val → Bool
  | .tup _ => true
  | _ => false
def isI : Val → Bool
  | .int _ => true
  | .bl _ => true
  | _ => false
def isB : Val → Bool
  | .bl _ => true
  | _ => false
/-- its place, if it is one, holds a list or a dict -/
def vld (S : Sto) (v : Val) : Prop := ∀ l, v = .ref l → (∃ xs, S[l]? = some (.lst xs)) ∨ ∃ kvs, S[l]? = some (.dic kvs)
theorem ask_tup {S : Sto} {v : Val} (h : vld S v) : isiR S (.v v) .tup = some (isT v) := by
  cases v with
  | ref l => rcases h l rfl with ⟨xs, e⟩ | ⟨xs, e⟩ <;> simp [isiR, clsOf, e, isiB, isT]
  | _ => rfl
theorem ask_int {S : Sto} {v : Val} (h : vld S v) : isiR S (.v v) .int = some (isI v) := by
  cases v with
  | ref l => rcases h l rfl with ⟨xs, e⟩ | ⟨xs, e⟩ <;> simp [isiR, clsOf, e, isiB, isI]
  | _ => rfl
theorem ask_bl {S : Sto} {v : Val} (h : vld S v) : isiR S (.v v) .bl = some (isB v) := by
  cases v with
  | ref l => rcases h l rfl with ⟨xs, e⟩ | ⟨xs, e⟩ <;> simp [isiR, clsOf, e, isiB, isB]
  | _ => rfl
mutual
/-- the ladder that a thing is -/
def ladV : Val → Option Lad
  | .tup xs => (ladPs xs).bind fun L => if L.falls = true then some L else none
  | .non => none
  | .bl _ => none
  | .int _ => none
  | .str _ => none
  | .fls _ => none
  | .ref _ => none
def ladPs : List Val → Option Lad
  | [] => some .nil
  | x :: xs => (ladP x).bind fun p => (ladPs xs).map fun L => .cons p.1 p.2 L
def ladP : Val → Option (Lad × Int)
  | .tup ys => ladQ ys
  | .non => none
  | .bl _ => none
  | .int _ => none
  | .str _ => none
  | .fls _ => none
  | .ref _ => none
def ladQ : List Val → Option (Lad × Int)
  | [] => none
  | a :: ys => match ys with
    | [.int n] => if 1 ≤ n then (ladV a).map fun e => (e, n) else none
    | _ => none
end
mutual
def vsz : Val → Nat
  | .tup xs => 1 + vszL xs
  | .non => 1
  | .bl _ => 1
  | .int _ => 1
  | .str _ => 1
  | .fls _ => 1
  | .ref _ => 1
def vszL : List Val → Nat
  | [] => 0
  | x :: xs => vsz x + vszL xs
end
theorem vsz_pos (v : Val) : 1 ≤ vsz v := by cases v <;> simp [vsz]
theorem len_vsz : ∀ xs : List Val, xs.length ≤ vszL xs
  | [] => by simp [vszL]
  | x :: xs => by
    have := len_vsz xs
    have := vsz_pos x
    simp only [List.length_cons, vszL]
    omega
theorem mem_vsz {x : Val} : ∀ {xs : List Val}, x ∈ xs → vsz x ≤ vszL xs
  | y :: xs, h => by
    rcases List.mem_cons.mp h with rfl | h
    · simp [vszL]
    · have := mem_vsz h
      simp only [vszL]
      omega
theorem siz_vsz : ∀ L : Lad, L.siz ≤ vszL L.enc
  | .nil => by simp [Lad.siz, vszL]
  | .cons e n r => by
    have h1 := siz_vsz e
    have h2 := siz_vsz r
    simp only [Lad.siz, Lad.enc, vszL, vsz]
    omega
/-- so deep at most, along the exponents -/
def fv (S : Sto) : Nat → Val → Prop
  | 0, v => vld S v ∧ isT v = false
  | k + 1, v => vld S v ∧ ∀ xs, v = .tup xs → ∀ x ∈ xs, vld S x ∧ ∀ a b, x = .tup [a, b] → fv S k a ∧ vld S b
theorem fv.vld {S : Sto} {k : Nat} {v : Val} (h : fv S k v) : vld S v := by
  cases k with
  | zero => exact h.1
  | succ k => exact h.1
theorem fv.up {S : Sto} : ∀ {k j : Nat} {v : Val}, fv S k v → k ≤ j → fv S j v
  | 0, 0, _, h, _ => h
  | 0, j + 1, v, h, _ => ⟨h.1, fun xs e => by rw [e] at h; exact absurd h.2 (by simp [isT])⟩
  | k + 1, j + 1, v, h, hj => ⟨h.1, fun xs e x hx => ⟨(h.2 xs e x hx).1, fun a b hab => ⟨((h.2 xs e x hx).2 a b hab).1.up (by omega), ((h.2 xs e x hx).2 a b hab).2⟩⟩⟩
theorem vld_of {S : Sto} {v : Val} (h : nref v = true) : vld S v := fun l e => by rw [e] at h; cases h
mutual
theorem ladV_eq : ∀ (v : Val) (L : Lad), ladV v = some L → v = L.v ∧ L.ok = true
  | .tup xs, L, h => by
    simp only [ladV] at h
    cases q : ladPs xs with
    | none => rw [q] at h; cases h
    | some M =>
      rw [q] at h
      simp only [Option.bind_some] at h
      split at h
      · rename_i hf
        cases h
        obtain ⟨h1, h2⟩ := ladPs_eq xs L q
        exact ⟨by rw [h1]; rfl, by simp [Lad.ok, h2, hf]⟩
      · cases h
  | .non, L, h => by simp [ladV] at h
  | .bl _, L, h => by simp [ladV] at h
  | .int _, L, h => by simp [ladV] at h
  | .str _, L, h => by simp [ladV] at h
  | .fls _, L, h => by simp [ladV] at h
  | .ref _, L, h => by simp [ladV] at h
theorem ladPs_eq : ∀ (xs : List Val) (L : Lad), ladPs xs = some L → xs = L.enc ∧ L.pairsOk = true
  | [], L, h => by simp only [ladPs] at h; cases h; exact ⟨rfl, rfl⟩
  | x :: xs, L, h => by
    simp only [ladPs] at h
    cases q : ladP x with
    | none => rw [q] at h; cases h
    | some p =>
      rw [q] at h
      simp only [Option.bind_some] at h
      cases q2 : ladPs xs with
      | none => rw [q2] at h; cases h
      | some M =>
        rw [q2] at h
        cases h
        obtain ⟨h1, h2⟩ := ladPs_eq xs M q2
        obtain ⟨h3, h4, h5⟩ := ladP_eq x p q
        refine ⟨by rw [h3, h1]; rfl, ?_⟩
        simp only [Lad.ok, Bool.and_eq_true] at h4
        simp [Lad.pairsOk, h2, h4.1, h4.2, h5]
theorem ladP_eq : ∀ (x : Val) (p : Lad × Int), ladP x = some p → x = .tup [p.1.v, .int p.2] ∧ p.1.ok = true ∧ 1 ≤ p.2
  | .tup ys, p, h => by
    simp only [ladP] at h
    exact ladQ_eq ys p h
  | .non, L, h => by simp [ladP] at h
  | .bl _, L, h => by simp [ladP] at h
  | .int _, L, h => by simp [ladP] at h
  | .str _, L, h => by simp [ladP] at h
  | .fls _, L, h => by simp [ladP] at h
  | .ref _, L, h => by simp [ladP] at h
theorem ladQ_eq : ∀ (ys : List Val) (p : Lad × Int), ladQ ys = some p → .tup ys = Val.tup [p.1.v, .int p.2] ∧ p.1.ok = true ∧ 1 ≤ p.2
  | [], p, h => by simp [ladQ] at h
  | a :: ys, p, h => by
    simp only [ladQ] at h
    split at h
    · split at h
      · rename_i n hn
        cases q : ladV a with
        | none => rw [q] at h; cases h
        | some e =>
          rw [q] at h
          cases h
          obtain ⟨h1, h2⟩ := ladV_eq a e q
          exact ⟨by rw [h1], h2, hn⟩
      · cases h
    · cases h
end
theorem ladPs_enc : ∀ L : Lad, L.pairsOk = true → ladPs L.enc = some L
  | .nil, _ => rfl
  | .cons e n r, h => by
    simp only [Lad.pairsOk, Bool.and_eq_true, decide_eq_true_eq] at h
    have h1 := ladPs_enc r (by first | exact h.2 | exact h.1.2)
    have h2 := ladPs_enc e (by first | exact h.1.1.1 | exact h.1.1)
    have hn : 1 ≤ n := by first | exact h.1.2 | exact h.1.1.2
    have hf : e.falls = true := by first | exact h.1.1.2 | exact h.1.2
    simp [Lad.enc, ladPs, ladP, ladQ, ladV, h1, h2, hn, hf]
theorem ladV_ok {L : Lad} (h : L.ok = true) : ladV L.v = some L := by
  simp only [Lad.ok, Bool.and_eq_true] at h
  simp [Lad.v, ladV, ladPs_enc L h.1, h.2]
/-- how deep the ladder within is -/
theorem fv_dep {S : Sto} : ∀ (L : Lad) (k : Nat), fv S (k + 1) L.v → L.dep ≤ k
  | .nil, k, _ => by simp [Lad.dep]
  | .cons e n r, k, h => by
    have h1 := (h.2 (Lad.cons e n r).enc rfl (.tup [e.v, .int n]) (by simp [Lad.enc, Lad.v])).2 e.v (.int n) rfl
    have hr : fv S (k + 1) r.v := ⟨vld_of rfl, fun xs e2 x hx => h.2 _ rfl x (by
      simp only [Lad.v, Val.tup.injEq] at e2
      subst e2
      simp [Lad.enc, hx])⟩
    have h3 := fv_dep r k hr
    match k, h1 with
    | 0, h1 => exact absurd h1.1.2 (by simp [isT, Lad.v])
    | k + 1, h1 =>
      have := fv_dep e k h1.1
      simp only [Lad.dep]
      omega
theorem fv_lad {S : Sto} : ∀ (L : Lad) (k : Nat), L.dep ≤ k → fv S (k + 1) L.v
  | .nil, k, _ => ⟨vld_of rfl, fun xs e x hx => by
      simp only [Lad.v, Lad.enc, Val.tup.injEq] at e
      subst e
      cases hx⟩
  | .cons e n r, k, h => by
    simp only [Lad.dep] at h
    refine ⟨vld_of rfl, fun xs e2 x hx => ?_⟩
    simp only [Lad.v, Val.tup.injEq] at e2
    subst e2
    simp only [Lad.enc, List.mem_cons] at hx
    rcases hx with rfl | hx
    · refine ⟨vld_of rfl, fun a b hab => ?_⟩
      cases hab
      match k, h with
      | 0, h => omega
      | k + 1, h => exact ⟨fv_lad e k (by omega), vld_of rfl⟩
    · exact (fv_lad (S := S) r k (by omega)).2 _ rfl x hx
def d__law_is_ladder : Fd := ⟨1, 3, (.cons (.ite (.not (.isi (.var 0) .tup)) (.cons (.ret (.some (.cst (.bl false)))) .nil) .nil) (.cons (.for (.n 1) (.e (.var 0)) (.cons (.ite (.or (.not (.isi (.var 1) .tup)) (.or (.cmp .ne (.blt .len (.cons (.var 1) .nil)) (.cst (.int 2))) (.not (.call "_law_is_ladder" (.cons (.ix (.var 1) (.cst (.int 0))) .nil))))) (.cons (.ret (.some (.cst (.bl false)))) .nil) .nil) (.cons (.ite (.or (.not (.isi (.ix (.var 1) (.cst (.int 1))) .int)) (.or (.isi (.ix (.var 1) (.cst (.int 1))) .bl) (.cmp .lt (.ix (.var 1) (.cst (.int 1))) (.cst (.int 1))))) (.cons (.ret (.some (.cst (.bl false)))) .nil) .nil) .nil))) (.cons (.ret (.some (.blt .all (.cons (.comp [2] (.n 2) (.rg2 (.cst (.int 1)) (.blt .len (.cons (.var 0) .nil))) .none (.cmp .lt (.ix (.ix (.var 0) (.var 2)) (.cst (.int 0))) (.ix (.ix (.var 0) (.bin .sub (.var 2) (.cst (.int 1)))) (.cst (.int 0))))) .nil)))) .nil)))⟩
def ilFor : Cs := forOf (nthCs d__law_is_ladder.body 1)
section
variable {P : Str → Option Fd} (S : Sto)
theorem il_body (k : Nat) (v0 : Option Val) (x : Val) (hv : vld S x) (hx : ∀ a b, x = .tup [a, b] → vld S b ∧ run P k "_law_is_ladder" [a] S = .ok (.v (.bl (ladV a).isSome)) S) :
    evB (run P k) ilFor [v0, some x, none] S = if (ladP x).isSome = true then .ok .nx [v0, some x, none] S else .ok (.rt (.v (.bl false))) [v0, some x, none] S := by
  have I := ask_tup hv
  cases x with
  | tup ys =>
    match ys, hx with
    | [], hx => simp [ilFor, nthCs, forOf, d__law_is_ladder, I, isT, isiB, ladP, ladQ]
    | [a], hx => simp [ilFor, nthCs, forOf, d__law_is_ladder, I, isT, isiB, ladP, ladQ]
    | a :: b :: c :: r, hx =>
      have : ¬ ((r.length : Int) + 1 + 1 + 1 = 2) := by omega
      simp [ilFor, nthCs, forOf, d__law_is_ladder, I, isT, isiB, ladP, ladQ, this]
    | [a, b], hx =>
      obtain ⟨vb, ih⟩ := hx a b rfl
      have I1 := ask_int vb
      have I2 := ask_bl vb
      cases q : ladV a with
      | none =>
        rw [q] at ih
        cases b with
        | int n => simp [ilFor, nthCs, forOf, d__law_is_ladder, I, isT, isiB, ladP, ladQ, ih, q]
        | _ => simp [ilFor, nthCs, forOf, d__law_is_ladder, I, isT, isiB, ladP, ladQ, ih, q]
      | some e =>
        rw [q] at ih
        cases b with
        | int n =>
          by_cases hn : 1 ≤ n
          · have h2 : ¬ n < 1 := by omega
            simp [ilFor, nthCs, forOf, d__law_is_ladder, I, isT, isiB, ladP, ladQ, ih, q, I1, I2, isI, isB, isiB, hn, h2]
          · have h2 : n < 1 := by omega
            simp [ilFor, nthCs, forOf, d__law_is_ladder, I, isT, isiB, ladP, ladQ, ih, q, I1, I2, isI, isB, isiB, hn, h2]
        | _ => simp [ilFor, nthCs, forOf, d__law_is_ladder, I, isT, isiB, ladP, ladQ, ih, q, I1, I2, isI, isB, isiB]
  | _ => simp [ilFor, nthCs, forOf, d__law_is_ladder, I, isT, isiB, ladP]
theorem il_loop (k : Nat) (v0 : Option Val) : ∀ (xs : List Val) (x1 : Option Val), (∀ x ∈ xs, vld S x ∧ ∀ a b, x = .tup [a, b] → vld S b ∧ run P k "_law_is_ladder" [a] S = .ok (.v (.bl (ladV a).isSome)) S) →
    ∃ x1', forL (evB (run P k) ilFor) (.n 1) [] xs [v0, x1, none] S = if (ladPs xs).isSome = true then .ok .nx [v0, x1', none] S else .ok (.rt (.v (.bl false))) [v0, x1', none] S
  | [], x1, _ => ⟨x1, by simp [forL, ladPs]⟩
  | x :: xs, x1, h => by
    have B := il_body (P := P) S k v0 x (h x (by simp)).1 (h x (by simp)).2
    obtain ⟨y, ih⟩ := il_loop k v0 xs (some x) fun z hz => h z (by simp [hz])
    cases q : ladP x with
    | none =>
      rw [q] at B
      exact ⟨some x, by simp [forL, B, ladPs, q]⟩
    | some p =>
      rw [q] at B
      refine ⟨y, ?_⟩
      simp only [forL, guardS_nil', asgT_n, List.set_cons_succ, List.set_cons_zero, B, Option.isSome_some, if_true, ih, ladPs, q, Option.bind_some, Option.isSome_map]
theorem il_B (k : Nat) (L : Lad) (x1 : Option Val) (hdd : L.dep ≤ 28) : Al (fun x y => ∃ e1, asgT (.n 2) x [some L.v, x1, none] = some e1 ∧ evE (run P k) (.cmp .lt (.ix (.ix (.var 0) (.var 2)) (.cst (.int 0))) (.ix (.ix (.var 0) (.bin .sub (.var 2) (.cst (.int 1)))) (.cst (.int 0)))) e1 S = .ok (.v y) S) (rngL 1 (L.len - 1)) ((List.range (L.len - 1)).map fun i => .bl (Lad.less (L.exps.getD (i + 1) .nil) (L.exps.getD i .nil))) := by
  refine Al.map _ _ _ fun i hi => ⟨_, rfl, ?_⟩
  have hi2 := List.mem_range.mp hi
  obtain ⟨e, n, a1, a2, a3⟩ := enc_at L i (by omega)
  obtain ⟨e', n', b1, b2, b3⟩ := enc_at L (i + 1) (by omega)
  have c1 : L2.atI L.enc (i : Int) = some (.tup [e.v, .int n]) := L2.atI_nat a2
  have c2 : L2.atI L.enc ((i : Int) + 1) = some (.tup [e'.v, .int n']) := L2.atI_nat b2
  have lr := ltR_enc e' e (by omega)
  have g1 : (1 : Int) + (i : Int) = (i : Int) + 1 := by omega
  simp only [Lad.v] at c1 c2
  simp [Lad.v, g1, c1, c2, cmp_lt, lr, a1, b1, List.getD]
theorem lil_run (h : P "_law_is_ladder" = some d__law_is_ladder) (j : Nat) : ∀ (k : Nat) (v : Val), fv S k v → vsz v ≤ 1000000 → k ≤ 28 → run P (j + k + 1) "_law_is_ladder" [v] S = .ok (.v (.bl (ladV v).isSome)) S := by
  intro k
  induction k with
  | zero =>
    intro v hv _ _
    have I := ask_tup hv.1
    rw [run_ok h _ _ _ rfl]
    have : ladV v = none := by
      cases v with
      | tup xs => exact absurd hv.2 (by simp [isT])
      | _ => rfl
    simp [d__law_is_ladder, startE, I, hv.2, this]
  | succ k ih =>
    intro v hv hz hk
    have I := ask_tup hv.1
    cases v with
    | tup xs =>
      have hz2 : 1 + vszL xs ≤ 1000000 := by simpa [vsz] using hz
      have hlen := len_vsz xs
      obtain ⟨y, lp⟩ := il_loop (P := P) S (j + k + 1) (some (.tup xs)) xs none (fun x hx => by
        have := hv.2 xs rfl x hx
        refine ⟨this.1, fun a b e => ⟨(this.2 a b e).2, ih a (this.2 a b e).1 ?_ (by omega)⟩⟩
        have h1 := mem_vsz hx
        rw [e] at h1
        simp only [vsz, vszL] at h1
        omega)
      have hb : d__law_is_ladder.body = .cons (nthCs d__law_is_ladder.body 0) (.cons (.for (.n 1) (.e (.var 0)) ilFor) (.cons (nthCs d__law_is_ladder.body 2) .nil)) := rfl
      have hst : startE d__law_is_ladder.n [.tup xs] = [some (.tup xs), none, none] := rfl
      have s0 : evS (run P (j + k + 1)) (nthCs d__law_is_ladder.body 0) [some (.tup xs), none, none] S = .ok .nx [some (.tup xs), none, none] S := by simp [nthCs, d__law_is_ladder, I, isT]
      have s1 : evI (run P (j + k + 1)) (.e (.var 0)) [some (.tup xs), none, none] S = .ok ⟨xs, []⟩ S := by simp
      show run P (j + k + 1 + 1) "_law_is_ladder" [.tup xs] S = _
      rw [run_ok h _ _ _ rfl, hb, hst, evB_cons, s0, sbind_nx, evB_cons, evS_for, s1, st_ok]
      simp only
      rw [lp]
      cases q : ladPs xs with
      | none => simp [ladV, q]
      | some L =>
        obtain ⟨h1, h2⟩ := ladPs_eq xs L q
        subst h1
        have hd := fv_dep (S := S) L k hv
        have B := il_B (P := P) S (j + k + 1) L y (by omega)
        have ll := Lad.len_enc L
        have hr : evI (run P (j + k + 1)) (.rg2 (.cst (.int 1)) (.blt .len (.cons (.var 0) .nil))) [some L.v, y, none] S = .ok ⟨rngL 1 (L.len - 1), []⟩ S := by
          simp only [evI_rg2, evE_cst, evE_blt, evR_cons, evR_nil, evE_var, List.getElem?_cons_zero, bind_ok, Lad.v, blt_one, len_tup, Lad.len_enc, of_some]
          rw [range1 L.len (by omega)]
          rfl
        have D := comp_run (run P (j + k + 1)) [2] _ _ _ _ S hr (by rw [rng_len]; omega) B
        have F := falls_all L
        have all := all_tmp (S := S) (bls_map (fun i => Lad.less (L.exps.getD (i + 1) .nil) (L.exps.getD i .nil)) (List.range (L.len - 1)))
        rw [List.all_map] at all
        have all2 : blt1 S .all (.t (.lst ((List.range (L.len - 1)).map fun i => .bl (Lad.less (L.exps.getD (i + 1) .nil) (L.exps.getD i .nil))))) = some (.v (.bl L.falls)) := by
          rw [all, ← F]
          rfl
        simp only [Option.isSome_some, if_true, sbind_nx]
        have lv : (some (Val.tup L.enc)) = some L.v := rfl
        rw [lv]
        have e3 : evB (run P (j + k + 1)) (.cons (nthCs d__law_is_ladder.body 2) .nil) [some L.v, y, none] S = .ok (.rt (.v (.bl L.falls))) [some L.v, y, none] S := by
          show evB _ (.cons (.ret (.some (.blt .all (.cons (.comp [2] (.n 2) (.rg2 (.cst (.int 1)) (.blt .len (.cons (.var 0) .nil))) .none (.cmp .lt (.ix (.ix (.var 0) (.var 2)) (.cst (.int 0))) (.ix (.ix (.var 0) (.bin .sub (.var 2) (.cst (.int 1)))) (.cst (.int 0))))) .nil)))) .nil) _ _ = _
          rw [evB_cons, evS_ret, evE_blt, evR_cons, D]
          simp only [bind_ok, evR_nil, blt_one, all2, of_some, st_ok, sbind_rt]
        rw [e3]
        simp only [ladV, q, Option.bind_some]
        cases L.falls <;> simp
    | _ =>
      rw [run_ok h _ _ _ rfl]
      simp [d__law_is_ladder, startE, I, isT, isiB, ladV]
/-- of a ladder -/
theorem lil_lad (h : P "_law_is_ladder" = some d__law_is_ladder) (L : Lad) (ho : L.ok = true) (hd : L.dep ≤ 26) (hz : vszL L.enc ≤ 900000) (k : Nat) : run P (k + 28) "_law_is_ladder" [L.v] S = .ok (.v (.bl true)) S := by
  have hz2 : vsz L.v ≤ 1000000 := by simp only [Lad.v, vsz]; omega
  have r := lil_run (P := P) S h k 27 L.v (fv_lad L 26 hd) hz2 (by omega)
  rw [ladV_ok ho] at r
  exact r
end
end Fe

/-! Fv0: new objects by slots: the operations do not look at places -/
namespace Fe
open PySem
/-! ### an object in the place of its reference -/
def nm (S : Sto) : Rv → Rv
  | .v (.ref l) => match S[l]? with
    | some o => .t o
    | none => .v (.ref l)
  | r => r
def FlR : Rv → Prop
  | .v x => x.bel 0 = true
  | .t o => o.bel 0 = true
theorem lstW_nm (S : Sto) (r : Rv) : lstW [] (nm S r) = lstW S r := by
  cases r with
  | v x => cases x with
    | ref l => simp only [nm, lstW]; cases h : S[l]? with
      | none => rfl
      | some o => cases o <;> rfl
    | _ => rfl
  | t o => cases o <;> rfl
theorem dicW_nm (S : Sto) (r : Rv) : dicW [] (nm S r) = dicW S r := by
  cases r with
  | v x => cases x with
    | ref l => simp only [nm, dicW]; cases h : S[l]? with
      | none => rfl
      | some o => cases o <;> rfl
    | _ => rfl
  | t o => cases o <;> rfl
theorem lstOf_nm (S : Sto) (r : Rv) : lstOf [] (nm S r) = lstOf S r := by
  cases r with
  | v x => cases x with
    | ref l =>
      have := lstW_nm S (.v (.ref l))
      simp only [lstOf]
      rw [← this]
      simp only [nm]
      cases h : S[l]? with
      | none => rfl
      | some o => cases o <;> rfl
    | _ => rfl
  | t o => cases o <;> rfl
theorem seqOf_nm (S : Sto) (r : Rv) : seqOf [] (nm S r) = seqOf S r := by
  cases r with
  | v x => cases x with
    | ref l =>
      have := lstOf_nm S (.v (.ref l))
      simp only [seqOf]
      rw [← this]
      simp only [nm]
      cases h : S[l]? with
      | none => rfl
      | some o => cases o <;> rfl
    | _ => rfl
  | t o => cases o <;> rfl
theorem datR_nm (S : Sto) (r : Rv) : datR [] (nm S r) = datR S r := by
  cases r with
  | v x => cases x with
    | ref l => simp only [nm, datR]; cases h : S[l]? with
      | none => simp
      | some o => cases o <;> rfl
    | _ => rfl
  | t o => cases o <;> rfl
theorem truR_nm (S : Sto) (r : Rv) : truR [] (nm S r) = truR S r := by
  cases r with
  | v x => cases x with
    | ref l =>
      have := seqOf_nm S (.v (.ref l))
      show _ = (seqOf S (.v (.ref l))).map _
      rw [← this]
      simp only [nm]
      cases h : S[l]? with
      | none => rfl
      | some o => cases o <;> rfl
    | _ => rfl
  | t o => cases o <;> rfl
theorem clsOf_nm (S : Sto) (r : Rv) : clsOf [] (nm S r) = clsOf S r := by
  cases r with
  | v x => cases x with
    | ref l => simp only [nm, clsOf]; cases h : S[l]? with
      | none => simp
      | some o => cases o <;> rfl
    | _ => rfl
  | t o => cases o <;> rfl
theorem isNon_nm (S : Sto) (r : Rv) : isNon (nm S r) = isNon r := by
  cases r with
  | v x => cases x with
    | ref l => simp only [nm]; cases h : S[l]? with
      | none => rfl
      | some o => rfl
    | _ => rfl
  | t o => rfl
theorem isTup_nm (S : Sto) (r : Rv) : isTup (nm S r) = isTup r := by
  cases r with
  | v x => cases x with
    | ref l => simp only [nm]; cases h : S[l]? with
      | none => rfl
      | some o => rfl
    | _ => rfl
  | t o => rfl
theorem isLst_nm (S : Sto) (r : Rv) : isLst [] (nm S r) = isLst S r := by unfold isLst; rw [lstOf_nm]
theorem addR_nm (S : Sto) (x y : Rv) : addR [] (nm S x) (nm S y) = addR S x y := by
  have hx := lstW_nm S x
  have hy := lstW_nm S y
  have key : ∀ (x' y' : Rv), lstW [] x' = lstW S x → lstW [] y' = lstW S y → (match lstW [] x', lstW [] y' with | some a, some b => if a.length + b.length ≤ sizeLine then some (Rv.t (.lst (a ++ b))) else none | _, _ => none) = (match lstW S x, lstW S y with | some a, some b => if a.length + b.length ≤ sizeLine then some (Rv.t (.lst (a ++ b))) else none | _, _ => none) := by
    intro x' y' h1 h2; rw [h1, h2]
  have k := key (nm S x) (nm S y) hx hy
  cases x with
  | v x => cases x with
    | ref l =>
      simp only [nm] at k ⊢
      cases h : S[l]? with
      | none => rw [h] at k; cases y with
        | v y => cases y <;> first | exact k | (simp only [nm] at k ⊢; split <;> rename_i hh <;> simp only [hh] at k <;> exact k)
        | t o => exact k
      | some o => rw [h] at k; cases y with
        | v y => cases y <;> first | exact k | (simp only [nm] at k ⊢; split <;> rename_i hh <;> simp only [hh] at k <;> exact k)
        | t o => exact k
    | _ => cases y with
      | v y => cases y <;> first | rfl | exact k | (simp only [nm] at k ⊢; split <;> rename_i hh <;> simp only [hh] at k <;> exact k)
      | t o => exact k
  | t o => cases y with
    | v y => cases y <;> first | exact k | (simp only [nm] at k ⊢; split <;> rename_i hh <;> simp only [hh] at k <;> exact k)
    | t o => exact k

def FlO (o : Option Rv) : Prop := ∀ r, o = some r → FlR r
def FlV (o : Option Val) : Prop := ∀ r, o = some r → r.bel 0 = true
def FlL (o : Option (List Val)) : Prop := ∀ r, o = some r → Val.belL 0 r = true
theorem belL_app : ∀ {a b : List Val} {n : Nat}, Val.belL n a = true → Val.belL n b = true → Val.belL n (a ++ b) = true
  | [], _, _, _, h => h
  | x :: a, b, n, h, h' => by
    simp only [Val.belL, Bool.and_eq_true] at h
    simp only [List.cons_append, Val.belL, Bool.and_eq_true]
    exact ⟨h.1, belL_app h.2 h'⟩
theorem belL_of : ∀ {a : List Val} {n : Nat}, (∀ x ∈ a, x.bel n = true) → Val.belL n a = true
  | [], _, _ => rfl
  | x :: a, n, h => by
    simp only [Val.belL, Bool.and_eq_true]
    exact ⟨h x (by simp), belL_of fun y hy => h y (by simp [hy])⟩
theorem bel_tup (n : Nat) (xs : List Val) : (Val.tup xs).bel n = Val.belL n xs := by simp [Val.bel]
theorem bel_fls (n : Nat) (xs : List Val) : (Val.fls xs).bel n = Val.belL n xs := by simp [Val.bel]
theorem bel_int (n : Nat) (i : Int) : (Val.int i).bel n = true := by simp [Val.bel]
theorem bel_bl (n : Nat) (i : Bool) : (Val.bl i).bel n = true := by simp [Val.bel]
theorem bel_str (n : Nat) (i : Str) : (Val.str i).bel n = true := by simp [Val.bel]
theorem bel_non (n : Nat) : Val.non.bel n = true := by simp [Val.bel]
theorem bel_ref0 (l : Nat) : (Val.ref l).bel 0 = false := by simp [Val.bel]
theorem fl_int (i : Int) : FlR (.v (.int i)) := bel_int 0 i
theorem fl_bl (i : Bool) : FlR (.v (.bl i)) := bel_bl 0 i
theorem fl_str (i : Str) : FlR (.v (.str i)) := bel_str 0 i
theorem fl_tup {xs : List Val} (h : Val.belL 0 xs = true) : FlR (.v (.tup xs)) := by show (Val.tup xs).bel 0 = true; rw [bel_tup]; exact h
theorem fl_lst {xs : List Val} (h : Val.belL 0 xs = true) : FlR (.t (.lst xs)) := h
theorem lstW_fl {r : Rv} (h : FlR r) : FlL (lstW [] r) := by
  intro xs e
  cases r with
  | v x => cases x <;> simp [lstW] at e
  | t o => cases o <;> simp [lstW] at e; subst e; exact h
theorem lstOf_fl {r : Rv} (h : FlR r) : FlL (lstOf [] r) := by
  intro xs e
  cases r with
  | v x => cases x with
    | fls ys => simp only [lstOf] at e; cases e; have h' : (Val.fls xs).bel 0 = true := h; rwa [bel_fls] at h'
    | _ => simp [lstOf, lstW] at e
  | t o => cases o <;> simp [lstOf, lstW] at e; subst e; exact h
theorem seqOf_fl {r : Rv} (h : FlR r) : FlL (seqOf [] r) := by
  intro xs e
  cases r with
  | v x => cases x with
    | tup ys => simp only [seqOf] at e; cases e; have h' : (Val.tup xs).bel 0 = true := h; rwa [bel_tup] at h'
    | fls ys => exact lstOf_fl h xs e
    | _ => simp [seqOf, lstOf, lstW] at e
  | t o => exact lstOf_fl h xs e
theorem belKV_mem : ∀ {kvs : List (Val × Val)} {n : Nat}, belKV n kvs = true → ∀ p ∈ kvs, p.1.bel n = true ∧ p.2.bel n = true
  | [], _, _, p, hp => by cases hp
  | (k, v) :: r, n, h, p, hp => by
    simp only [belKV, Bool.and_eq_true] at h
    rcases List.mem_cons.mp hp with rfl | hp
    · exact h.1
    · exact belKV_mem h.2 p hp
theorem belKV_of : ∀ {kvs : List (Val × Val)} {n : Nat}, (∀ p ∈ kvs, p.1.bel n = true ∧ p.2.bel n = true) → belKV n kvs = true
  | [], _, _ => rfl
  | (k, v) :: r, n, h => by
    simp only [belKV, Bool.and_eq_true]
    exact ⟨h (k, v) (by simp), belKV_of fun q hq => h q (by simp [hq])⟩
theorem dicW_fl {r : Rv} (h : FlR r) {kvs : List (Val × Val)} (e : dicW [] r = some kvs) : belKV 0 kvs = true := by
  cases r with
  | v x => cases x <;> simp [dicW] at e
  | t o => cases o <;> simp [dicW] at e; subst e; exact h
theorem dval_fl {k : Val} {kvs : List (Val × Val)} (h : belKV 0 kvs = true) : FlV (dval k kvs) := by
  intro x e
  unfold dval at e
  cases q : kvs.find? fun p => keyEq p.1 k with
  | none => rw [q] at e; cases e
  | some p => rw [q] at e; cases e; exact (belKV_mem h p (List.mem_of_find?_eq_some q)).2
theorem addR_fl {x y : Rv} (hx : FlR x) (hy : FlR y) : FlO (addR [] x y) := by
  have key : FlO (match lstW [] x, lstW [] y with | some a, some b => if a.length + b.length ≤ sizeLine then some (Rv.t (.lst (a ++ b))) else none | _, _ => none) := by
    intro r e
    cases q1 : lstW [] x with
    | none => rw [q1] at e; cases e
    | some a => cases q2 : lstW [] y with
      | none => rw [q1, q2] at e; cases e
      | some b =>
        rw [q1, q2] at e
        simp only at e
        split at e
        · cases e; exact belL_app (lstW_fl hx _ q1) (lstW_fl hy _ q2)
        · cases e
  intro r e
  unfold addR at e
  split at e
  · cases e; exact fl_int _
  · split at e
    · cases e; exact fl_str _
    · cases e
  · split at e
    · cases e
      have h1 : (Val.tup _).bel 0 = true := hx
      have h2 : (Val.tup _).bel 0 = true := hy
      rw [bel_tup] at h1 h2
      exact fl_tup (belL_app h1 h2)
    · cases e
  · exact key r e
theorem binR_fl {o : Bop} {x y : Rv} (hx : FlR x) (hy : FlR y) : FlO (binR [] o x y) := by
  intro r e
  cases o with
  | add => exact addR_fl hx hy r e
  | _ => unfold binR at e; split at e <;> first | (cases e; done) | (cases e; exact fl_int _) | (split at e <;> first | (cases e; done) | (cases e; exact fl_int _)) | (rename_i hh; exact nomatch hh)
theorem binR_nm (S : Sto) (o : Bop) (x y : Rv) : binR [] o (nm S x) (nm S y) = binR S o x y := by
  cases o with
  | add => exact addR_nm S x y
  | _ =>
    cases x with
    | v x => cases x with
      | ref l => simp only [nm]; cases h : S[l]? <;> rfl
      | _ => cases y with
        | v y => cases y with
          | ref l => simp only [nm]; cases h : S[l]? <;> rfl
          | _ => rfl
        | t o => rfl
    | t o => rfl
theorem eqR_nm (S : Sto) (x y : Rv) : eqR [] (nm S x) (nm S y) = eqR S x y := by
  unfold eqR
  rw [datR_nm, datR_nm]
theorem inR_nm (S : Sto) (x y : Rv) : inR [] (nm S x) (nm S y) = inR S x y := by
  have hy := lstOf_nm S y
  cases x with
  | v x => cases x with
    | ref l =>
      have e : inR S (.v (.ref l)) y = none := by
        unfold inR
        cases y with
        | v y => cases y <;> simp only [] <;> cases lstOf S _ <;> simp [Val.bel]
        | t o => simp only []; cases lstOf S _ <;> simp [Val.bel]
      rw [e]
      simp only [nm]
      cases h : S[l]? with
      | some o => rfl
      | none =>
        unfold inR
        cases y with
        | v y => cases y <;> simp only [] <;> cases lstOf [] _ <;> simp [Val.bel]
        | t o => simp only []; cases lstOf [] _ <;> simp [Val.bel]
    | str a =>
      cases y with
      | v y => cases y with
        | ref l =>
          simp only [inR, nm] at hy ⊢
          cases h : S[l]? with
          | none => rw [h] at hy; simp only [] at hy ⊢; rw [hy]
          | some o => rw [h] at hy; simp only [] at hy ⊢; rw [hy]
        | _ => rfl
      | t o => cases o <;> rfl
    | _ =>
      cases y with
      | v y => cases y with
        | ref l =>
          simp only [inR, nm] at hy ⊢
          cases h : S[l]? with
          | none => rw [h] at hy; simp only [] at hy ⊢; rw [hy]
          | some o => rw [h] at hy; simp only [] at hy ⊢; rw [hy]
        | _ => rfl
      | t o => cases o <;> rfl
  | t o => cases y with
    | v y => cases y with
      | ref l => simp only [nm]; cases h : S[l]? <;> rfl
      | _ => rfl
    | t o => rfl
theorem cmpR_nm (S : Sto) (o : Cop) (x y : Rv) : cmpR [] o (nm S x) (nm S y) = cmpR S o x y := by
  cases o with
  | eq => exact eqR_nm S x y
  | ne => show (eqR [] _ _).map _ = (eqR S _ _).map _; rw [eqR_nm]
  | isin => exact inR_nm S x y
  | notin => show (inR [] _ _).map _ = (inR S _ _).map _; rw [inR_nm]
  | is =>
    have hx := isNon_nm S x
    cases y with
    | v y => cases y with
      | ref l => simp only [nm]; cases h : S[l]? <;> rfl
      | non => show some (isNon (nm S x)) = some (isNon x); rw [hx]
      | _ => rfl
    | t o => rfl
  | isn =>
    have hx := isNon_nm S x
    cases y with
    | v y => cases y with
      | ref l => simp only [nm]; cases h : S[l]? <;> rfl
      | non => show some (!isNon (nm S x)) = some (!isNon x); rw [hx]
      | _ => rfl
    | t o => rfl
  | _ =>
    cases x with
    | v x => cases x with
      | ref l => simp only [nm]; cases h : S[l]? with
        | some o => cases y with
          | v y => cases y with
            | ref l => simp only [nm]; cases h : S[l]? <;> rfl
            | _ => rfl
          | t o => rfl
        | none => cases y with
          | v y => cases y with
            | ref l => simp only [nm]; cases h : S[l]? <;> rfl
            | _ => rfl
          | t o => rfl
      | _ => cases y with
        | v y => cases y with
          | ref l => simp only [nm]; cases h : S[l]? <;> rfl
          | _ => rfl
        | t o => rfl
    | t o => cases y with
      | v y => cases y with
        | ref l => simp only [nm]; cases h : S[l]? <;> rfl
        | _ => rfl
      | t o => rfl
theorem isiR_nm (S : Sto) (r : Rv) (t : Ty) : isiR [] (nm S r) t = isiR S r t := by unfold isiR; rw [clsOf_nm]
theorem isiTR_nm (S : Sto) (r : Rv) (t : List Ty) : isiTR [] (nm S r) t = isiTR S r t := by unfold isiTR; rw [clsOf_nm]
theorem joinR_nm (S : Sto) (m : Str) (r : Rv) : joinR [] m (nm S r) = joinR S m r := by unfold joinR; rw [seqOf_nm]
theorem maxdR_nm (S : Sto) (d : Int) (r : Rv) : maxdR [] d (nm S r) = maxdR S d r := by unfold maxdR; rw [lstOf_nm]
theorem joinR_fl (m : Str) (r : Rv) : FlV (joinR [] m r) := by
  intro x e
  unfold joinR at e
  cases q : seqOf [] r with
  | none => rw [q] at e; cases e
  | some xs =>
    rw [q] at e
    simp only [Option.bind_some] at e
    cases q2 : strsOf xs with
    | none => rw [q2] at e; cases e
    | some ys =>
      rw [q2] at e
      simp only [Option.bind_some] at e
      split at e
      · cases e; exact bel_str 0 _
      · cases e
theorem maxdR_fl (d : Int) (r : Rv) : FlV (maxdR [] d r) := by
  intro x e
  unfold maxdR at e
  cases q : lstOf [] r with
  | none => rw [q] at e; cases e
  | some xs =>
    rw [q] at e
    simp only [Option.bind_some] at e
    cases q2 : intsOf xs with
    | none => rw [q2] at e; cases e
    | some ys =>
      rw [q2] at e
      simp only [Option.map_some] at e
      cases ys with
      | nil => cases e; exact bel_int 0 _
      | cons i js => cases e; exact bel_int 0 _
theorem revR_nm (S : Sto) (r : Rv) : revR [] (nm S r) = revR S r := by
  have h := lstOf_nm S r
  cases r with
  | v x => cases x with
    | ref l =>
      simp only [revR, nm] at h ⊢
      cases q : S[l]? with
      | none => rw [q] at h; simp only [] at h ⊢; rw [h]
      | some o => rw [q] at h; simp only [] at h ⊢; rw [h]
    | _ => rfl
  | t o => cases o <;> rfl
theorem slR_nm (S : Sto) (r : Rv) (lo hi : Option Int) : slR [] (nm S r) lo hi = slR S r lo hi := by
  have h := lstOf_nm S r
  cases r with
  | v x => cases x with
    | ref l =>
      simp only [slR, nm] at h ⊢
      cases q : S[l]? with
      | none => rw [q] at h; simp only [] at h ⊢; rw [h]
      | some o => rw [q] at h; simp only [] at h ⊢; rw [h]
    | _ => rfl
  | t o => cases o <;> rfl
theorem ixR_nm (S : Sto) (r : Rv) (i : Int) : ixR [] (nm S r) i = ixR S r i := by
  have h := seqOf_nm S r
  have h2 := dicW_nm S r
  cases r with
  | v x => cases x with
    | ref l =>
      simp only [ixR, nm] at h h2 ⊢
      cases q : S[l]? with
      | none => rw [q] at h h2; simp only [] at h h2 ⊢; rw [h, h2]
      | some o => rw [q] at h h2; simp only [] at h h2 ⊢; rw [h, h2]
    | _ => rfl
  | t o => cases o <;> rfl
theorem belL_rev {xs : List Val} {n : Nat} (h : Val.belL n xs = true) : Val.belL n xs.reverse = true := belL_of fun x hx => bel_mem h x (by simpa using hx)
theorem belL_cut {xs : List Val} {n : Nat} (h : Val.belL n xs = true) (lo hi : Option Int) : Val.belL n (cutL xs lo hi) = true := belL_of fun x hx => bel_mem h x (List.mem_of_mem_drop (List.mem_of_mem_take hx))
theorem revR_fl {r : Rv} (h : FlR r) : FlO (revR [] r) := by
  intro z e
  unfold revR at e
  split at e
  · cases e
    have h' : (Val.tup _).bel 0 = true := h
    rw [bel_tup] at h'
    exact fl_tup (belL_rev h')
  · cases q : lstOf [] r with
    | none => rw [q] at e; cases e
    | some xs => rw [q] at e; cases e; exact fl_lst (belL_rev (lstOf_fl h _ q))
theorem repR_nm (S : Sto) (x y : Rv) : repR [] (nm S x) (nm S y) = repR S x y := by
  have hx := lstW_nm S x
  cases y with
  | v y => cases y with
    | int k =>
      show repR [] (nm S x) (.v (.int k)) = _
      simp only [repR, hx]
    | ref l => simp only [nm, repR]; cases h : S[l]? <;> rfl
    | _ => rfl
  | t o => rfl
theorem repR_fl {x y : Rv} (h : FlR x) : FlO (repR [] x y) := by
  intro r e
  unfold repR at e
  split at e
  · split at e
    · rename_i k xs q
      split at e
      · cases e
        refine fl_lst (belL_of fun z hz => ?_)
        obtain ⟨l, hl, hz⟩ := List.mem_flatten.mp hz
        rw [List.eq_of_mem_replicate hl] at hz
        exact bel_mem (lstW_fl h _ q) z hz
      · cases e
    · cases e
  · cases e
theorem slR_fl {r : Rv} (h : FlR r) (lo hi : Option Int) : FlO (slR [] r lo hi) := by
  intro z e
  unfold slR at e
  split at e
  · cases e
    have h' : (Val.tup _).bel 0 = true := h
    rw [bel_tup] at h'
    exact fl_tup (belL_cut h' lo hi)
  · split at e
    · cases e; exact fl_str _
    · cases e
  · cases q : lstOf [] r with
    | none => rw [q] at e; cases e
    | some xs => rw [q] at e; cases e; exact fl_lst (belL_cut (lstOf_fl h _ q) lo hi)
theorem atI_mem {α : Type} {xs : List α} {i : Int} {x : α} (h : L2.atI xs i = some x) : x ∈ xs := by
  unfold L2.atI at h
  cases q : L2.ixN xs.length i with
  | none => rw [q] at h; cases h
  | some j => rw [q] at h; exact List.mem_of_getElem? h
theorem ixR_fl {r : Rv} (h : FlR r) (i : Int) : FlV (ixR [] r i) := by
  intro z e
  unfold ixR at e
  split at e
  · split at e
    · cases q : L2.atI _ i with
      | none => rw [q] at e; cases e
      | some c => rw [q] at e; cases e; exact bel_str 0 _
    · cases e
  · cases q : dicW [] r with
    | some kvs => rw [q] at e; exact dval_fl (dicW_fl h q) z e
    | none =>
      rw [q] at e
      simp only [] at e
      cases q2 : seqOf [] r with
      | none => rw [q2] at e; cases e
      | some xs => rw [q2] at e; exact bel_mem (seqOf_fl h _ q2) z (atI_mem e)
theorem blt1_nm (S : Sto) (f : Bf) (r : Rv) : blt1 [] f (nm S r) = blt1 S f r := by
  have h1 := lstOf_nm S r
  have h2 := seqOf_nm S r
  have h3 := dicW_nm S r
  cases r with
  | v x => cases x with
    | ref l =>
      simp only [nm] at h1 h2 h3 ⊢
      cases q : S[l]? with
      | none => rw [q] at h1 h2 h3; simp only [] at h1 h2 h3 ⊢; cases f <;> simp only [blt1, h1, h2, h3]
      | some o => rw [q] at h1 h2 h3; simp only [] at h1 h2 h3 ⊢; cases f <;> simp only [blt1, h1, h2, h3]
    | _ => cases f <;> rfl
  | t o => cases o <;> cases f <;> rfl
theorem bltR_nm (S : Sto) (f : Bf) (rs : List Rv) : bltR [] f (rs.map (nm S)) = bltR S f rs := by
  match rs with
  | [] => rfl
  | [r] => exact blt1_nm S f r
  | [x, y] =>
    cases x with
    | v x => cases x with
      | ref l => cases y with
        | v y => cases y <;> simp only [List.map_cons, List.map_nil, nm] <;> cases h : S[l]? <;> first | rfl | (rename_i l2 ; cases h2 : S[l2]? <;> rfl) | (rename_i l2 _ ; cases h2 : S[l2]? <;> rfl)
        | t o => simp only [List.map_cons, List.map_nil, nm]; cases h : S[l]? <;> rfl
      | _ => cases y with
        | v y => cases y with
          | ref l => simp only [List.map_cons, List.map_nil, nm]; cases h : S[l]? <;> rfl
          | _ => rfl
        | t o => rfl
    | t o => cases y with
      | v y => cases y with
        | ref l => simp only [List.map_cons, List.map_nil, nm]; cases h : S[l]? <;> rfl
        | _ => rfl
      | t o => rfl
  | a :: b :: c :: d => simp only [List.map_cons]; unfold bltR; simp
theorem maxL_fl (b : Bool) (xs : List Val) : FlO (maxL b xs) := by
  intro z e
  unfold maxL at e
  split at e
  · cases q : intsOf _ with
    | none => rw [q] at e; cases e
    | some js => rw [q] at e; cases e; exact fl_int _
  · cases e
theorem blt1_fl {f : Bf} {r : Rv} (h : FlR r) : FlO (blt1 [] f r) := by
  intro z e
  unfold blt1 at e
  split at e
  · split at e
    · cases e; exact fl_int _
    · cases e
  · cases q : seqOf [] r with
    | none => rw [q] at e; cases e
    | some xs => rw [q] at e; cases e; exact fl_int _
  · cases e; exact fl_int _
  · cases q : lstOf [] r with
    | none => rw [q] at e; cases e
    | some xs => rw [q] at e; exact maxL_fl _ _ z e
  · cases q : lstOf [] r with
    | none => rw [q] at e; cases e
    | some xs => rw [q] at e; exact maxL_fl _ _ z e
  · cases q : lstOf [] r with
    | none => rw [q] at e; cases e
    | some xs =>
      rw [q] at e
      simp only [Option.bind_some] at e
      cases q2 : intsOf xs with
      | none => rw [q2] at e; cases e
      | some ys => rw [q2] at e; cases e; exact fl_int _
  · cases q : lstOf [] r with
    | none => rw [q] at e; cases e
    | some xs =>
      rw [q] at e
      simp only [Option.bind_some] at e
      cases q2 : blsOf xs with
      | none => rw [q2] at e; cases e
      | some ys => rw [q2] at e; cases e; exact fl_bl _
  · cases q : lstOf [] r with
    | none => rw [q] at e; cases e
    | some xs =>
      rw [q] at e
      simp only [Option.bind_some] at e
      cases q2 : blsOf xs with
      | none => rw [q2] at e; cases e
      | some ys => rw [q2] at e; cases e; exact fl_bl _
  · cases q : seqOf [] r with
    | none => rw [q] at e; cases e
    | some xs => rw [q] at e; cases e; exact fl_tup (seqOf_fl h _ q)
  · cases q : dicW [] r with
    | some kvs =>
      rw [q] at e
      cases e
      refine fl_lst (belL_of fun x hx => ?_)
      obtain ⟨p, hp, rfl⟩ := List.mem_map.mp hx
      exact (belKV_mem (dicW_fl h q) p hp).1
    | none =>
      rw [q] at e
      simp only [] at e
      cases q2 : seqOf [] r with
      | none => rw [q2] at e; cases e
      | some xs => rw [q2] at e; cases e; exact fl_lst (seqOf_fl h _ q2)
  · cases e; exact fl_int _
  · cases e; exact fl_int _
  · split at e
    · split at e
      · cases e; exact fl_int _
      · cases e
    · cases e
  · cases q : seqOf [] r with
    | none => rw [q] at e; cases e
    | some xs =>
      rw [q] at e
      simp only [Option.bind_some] at e
      split at e
      · cases e
        exact fl_lst (belL_of fun x hx => bel_mem (seqOf_fl h _ q) x ((List.mergeSort_perm _ _).mem_iff.mp hx))
      · cases e
  · split at e
    · cases e; exact fl_str _
    · cases e
  · cases e
theorem bltR_fl {f : Bf} : ∀ {rs : List Rv}, (∀ r ∈ rs, FlR r) → FlO (bltR [] f rs)
  | [], _, z, e => by cases e
  | [r], h, z, e => blt1_fl (h r (by simp)) z e
  | [x, y], h, z, e => by
    unfold bltR at e
    split at e
    · rename_i hh; cases hh
    · split at e <;> cases e <;> exact fl_int _
    · cases e
  | a :: b :: c :: d, h, z, e => by unfold bltR at e; simp at e
/-! ### changes of an object -/
def metL (m : Mf) (xs args : List Val) : Option (Rv × List Val) := match m, args with
  | .append, [x] => if xs.length < sizeLine then some (.v .non, xs ++ [x]) else none
  | .pop, [] => (xs[xs.length - 1]?).map fun y => (.v y, xs.dropLast)
  | .pop, [.int i] => if -(2 ^ 63) ≤ i ∧ i < 2 ^ 63 then (seqIndex? i xs.length).bind fun k => (xs[k]?).map fun y => (.v y, xs.eraseIdx k) else none
  | .reverse, [] => some (.v .non, xs.reverse)
  | .clear, [] => some (.v .non, [])
  | _, _ => none
theorem metR_eq (m : Mf) (l : Nat) (args : List Val) (S : Sto) : metR m l args S = match S[l]? with
    | some (.lst xs) => (metL m xs args).map fun p => (p.1, S.set l (.lst p.2))
    | _ => none := by
  unfold metR
  cases h : S[l]? with
  | none => rfl
  | some o => cases o with
    | lst xs =>
      simp only []
      cases m with
      | append => match args with
        | [] => rfl
        | [x] => simp only [metL]; split <;> rfl
        | _ :: _ :: _ => rfl
      | pop => match args with
        | [] => simp only [metL]; cases xs[xs.length - 1]? <;> rfl
        | [x] => cases x with
          | int i =>
            simp only [metL]
            split
            · cases seqIndex? i xs.length with
              | none => rfl
              | some k => simp only [Option.bind_some]; cases xs[k]? <;> rfl
            · rfl
          | _ => rfl
        | x :: _ :: _ => cases x <;> rfl
      | reverse => match args with
        | [] => rfl
        | _ :: _ => rfl
      | clear => match args with
        | [] => rfl
        | _ :: _ => rfl
    | dic _ => rfl
    | ins _ _ => rfl
theorem metL_fl {m : Mf} {xs args : List Val} (hx : Val.belL 0 xs = true) (ha : Val.belL 0 args = true) {p : Rv × List Val} (e : metL m xs args = some p) : (∃ y, p.1 = .v y ∧ y.bel 0 = true) ∧ Val.belL 0 p.2 = true := by
  unfold metL at e
  split at e
  · split at e
    · cases e
      simp only [Val.belL, Bool.and_true] at ha
      exact ⟨⟨_, rfl, bel_non 0⟩, belL_app hx (by simp only [Val.belL, Bool.and_true]; exact ha)⟩
    · cases e
  · cases q : xs[xs.length - 1]? with
    | none => rw [q] at e; cases e
    | some y =>
      rw [q] at e
      cases e
      exact ⟨⟨y, rfl, bel_mem hx y (List.mem_of_getElem? q)⟩, belL_of fun z hz => bel_mem hx z (List.dropLast_subset _ hz)⟩
  · split at e
    · rename_i i hi
      cases q : seqIndex? i xs.length with
      | none => rw [q] at e; cases e
      | some k =>
        rw [q] at e
        simp only [Option.bind_some] at e
        cases q2 : xs[k]? with
        | none => rw [q2] at e; cases e
        | some y =>
          rw [q2] at e
          cases e
          exact ⟨⟨y, rfl, bel_mem hx y (List.mem_of_getElem? q2)⟩, belL_of fun z hz => bel_mem hx z (List.mem_of_mem_eraseIdx hz)⟩
    · cases e
  · cases e; exact ⟨⟨_, rfl, bel_non 0⟩, belL_rev hx⟩
  · cases e; exact ⟨⟨_, rfl, bel_non 0⟩, rfl⟩
  · cases e
def setOb (k : Val) (x : Val) : Ob → Option Ob
  | .lst xs => match k with
    | .int i => (L2.ixN xs.length i).map fun j => .lst (xs.set j x)
    | _ => none
  | .dic kvs => match k with
    | .int i => if kvs.length < sizeLine then some (.dic (dput (.int i) x kvs)) else none
    | .str s => if kvs.length < sizeLine then some (.dic (dput (.str s) x kvs)) else none
    | _ => none
  | _ => none
theorem setIxR_eq (l : Nat) (i : Int) (x : Val) (S : Sto) : setIxR l i x S = (S[l]?).bind fun o => (setOb (.int i) x o).map fun o' => S.set l o' := by
  unfold setIxR
  cases h : S[l]? with
  | none => rfl
  | some o => cases o with
    | lst xs => simp only [Option.bind_some, setOb]; cases L2.ixN xs.length i <;> rfl
    | dic kvs => simp only [Option.bind_some, setOb]; split <;> rfl
    | ins _ _ => rfl
theorem setKeyR_eq (l : Nat) (k : Str) (x : Val) (S : Sto) : setKeyR l k x S = (S[l]?).bind fun o => (setOb (.str k) x o).map fun o' => S.set l o' := by
  unfold setKeyR
  cases h : S[l]? with
  | none => rfl
  | some o => cases o with
    | lst xs => rfl
    | dic kvs => simp only [Option.bind_some, setOb]; split <;> rfl
    | ins _ _ => rfl
theorem dput_fl {k v : Val} {kvs : List (Val × Val)} (h : belKV 0 kvs = true) (hk : k.bel 0 = true) (hv : v.bel 0 = true) : belKV 0 (dput k v kvs) = true := by
  refine belKV_of fun p hp => ?_
  unfold dput at hp
  split at hp
  · obtain ⟨q, hq, rfl⟩ := List.mem_map.mp hp
    have := belKV_mem h q hq
    split
    · exact ⟨this.1, hv⟩
    · exact this
  · rcases List.mem_append.mp hp with hp | hp
    · exact belKV_mem h p hp
    · simp at hp; subst hp; exact ⟨hk, hv⟩
theorem setOb_fl {k x : Val} {o o' : Ob} (ho : o.bel 0 = true) (hk : k.bel 0 = true) (hx : x.bel 0 = true) (e : setOb k x o = some o') : o'.bel 0 = true := by
  cases o with
  | lst xs => cases k with
    | int i =>
      simp only [setOb] at e
      cases q : L2.ixN xs.length i with
      | none => rw [q] at e; cases e
      | some j =>
        rw [q] at e
        cases e
        refine belL_of fun z hz => ?_
        rcases List.mem_or_eq_of_mem_set hz with hz | rfl
        · exact bel_mem ho z hz
        · exact hx
    | _ => cases e
  | dic kvs => cases k with
    | int i =>
      simp only [setOb] at e
      split at e
      · cases e; exact dput_fl ho hk hx
      · cases e
    | str i =>
      simp only [setOb] at e
      split at e
      · cases e; exact dput_fl ho hk hx
      · cases e
    | _ => cases e
  | ins _ _ => cases e
end Fe

/-! Fv1: new objects by slots: the interpreter, and how it stands for the other one -/
namespace Fe
open PySem
/-! ### a frame of its own -/
def Val.loc : Val → Option Nat
  | .ref l => some l
  | _ => none
theorem loc_eq {x : Val} {l : Nat} (h : x.loc = some l) : x = .ref l := by
  cases x <;> simp [Val.loc] at h
  rw [h]
theorem loc_bel {x : Val} (h : x.bel 0 = true) : x.loc = none := by
  cases x <;> first | rfl | (rw [bel_ref0] at h; cases h)
def dmy : Ob := .lst []
def bindE : Nat → List Val → Env
  | _, [] => []
  | j, x :: r => (match x.loc with
    | some _ => some (.ref j)
    | none => some x) :: bindE (j + 1) r
def bindS (S : Sto) : List Val → Sto
  | [] => []
  | x :: r => (match x.loc with
    | some l => (S[l]?).getD dmy
    | none => dmy) :: bindS S r
def back (S' : Sto) : Nat → List Val → Sto → Sto
  | _, [], S => S
  | j, x :: r, S => match x.loc with
    | some l => (back S' (j + 1) r S).set l ((S'[j]?).getD dmy)
    | none => back S' (j + 1) r S
def distL : List Val → Bool
  | [] => true
  | x :: r => (match x.loc with
    | some l => r.all fun y => decide (y.loc ≠ some l)
    | none => true) && distL r
def wipeS (S : Sto) : List Nat → Sto
  | [] => S
  | i :: is => (wipeS S is).set i dmy
def cutX (n : Nat) : SR → SR
  | .exc x env S => .exc x env (S.take n)
  | r => r
mutual
noncomputable def evS2 (np : Nat) (T : Fns) : C → Env → Sto → SR
  | .set i e, env, S => (evE T e env S).st env fun r S => match r with
    | .t o => if np ≤ i then .ok .nx (env.set i (some (.ref i))) (S.set i o) else .bad
    | .v x => match x.loc with
      | some _ => .bad
      | none => .ok .nx (env.set i (some x)) S
  | .ite c a b, env, S => (evT T c env S).st env fun k S => if k = true then evB2 np T a env S else evB2 np T b env S
  | .wh c b, env, S => whL (evT T c) (evB2 np T b) whFuel env S
  | .for t it b, env, S => (evI T it env S).st env fun src S => forL (evB2 np T b) t src.live src.items env S
  | .tryE tb b c _ ifs p q, env, S => meetE tb c ifs p q (cutX S.length (evB2 np T b env S))
  | .tryH ps b c i hs, env, S => meetH (evH2 np T hs ps i) (cutX S.length (evB2 np T b env S))
  | .asg t e, env, S => evS T (.asg t e) env S
  | .par i j a b, env, S => evS T (.par i j a b) env S
  | .setIx o i e, env, S => evS T (.setIx o i e) env S
  | .aug i o e, env, S => evS T (.aug i o e) env S
  | .ex e, env, S => evS T (.ex e) env S
  | .ret e, env, S => evS T (.ret e) env S
  | .pass, env, S => .ok .nx env S
  | .cont, env, S => .ok .ct env S
  | .brk, env, S => .ok .bk env S
  | .rse c m, env, S => .exc ⟨c, []⟩ env S
  | .never, _, _ => .bad
noncomputable def evB2 (np : Nat) (T : Fns) : Cs → Env → Sto → SR
  | .nil, env, S => .ok .nx env S
  | .cons c r, env, S => (evS2 np T c env S).bind fun env S => evB2 np T r env S
  | .kill is r, env, S => evB2 np T r (wipeE env is) (wipeS S is)
noncomputable def evH2 (np : Nat) (T : Fns) : Hl → List Str → Nat → Exn → Env → Sto → SR
  | .nil, ps, _, x, env, S => if ps.contains x.cls = true then .exc x env S else .bad
  | .cons c b r, ps, i, x, env, S => if x.cls = c then hEnd i (evB2 np T b (env.set i none) S) else evH2 np T r ps i x env S
end
/-- what leaves a frame -/
def fin2 (np : Nat) (xs : List Val) (S : Sto) : SR → Res Rv
  | .ok (.rt r) _ S' => match r with
    | .v x => match x.loc with
      | some j => if np ≤ j then match S'[j]? with
        | some o => .ok (.t o) (back S' 0 xs S)
        | none => .bad else .bad
      | none => .ok (.v x) (back S' 0 xs S)
    | .t o => .ok (.t o) (back S' 0 xs S)
  | .ok .nx _ S' => .ok (.v .non) (back S' 0 xs S)
  | .exc x _ S' => .exc x (back S' 0 xs S)
  | _ => .bad
noncomputable def runD2 (T : Fns) (d : Fd) (xs : List Val) (S : Sto) : Res Rv :=
  if xs.length = d.np ∧ distL xs = true then fin2 d.np xs S (evB2 d.np T d.body (bindE 0 xs ++ List.replicate (d.n - xs.length) none) (bindS S xs ++ List.replicate (d.n - xs.length) dmy))
  else .bad
/-- functions that are given by what they do -/
abbrev Prims := Nat → Str → Option (List Val → Sto → Res Rv)
noncomputable def run2 (P : Str → Option Fd) (pr : Prims) : Nat → Fns
  | 0 => fun _ _ _ => .bad
  | k + 1 => fun f xs S => match pr k f with
    | some F => F xs S
    | none => match P f with
      | some d => runD2 (run2 P pr k) d xs S
      | none => .bad

/-! ### the look at a text -/
/-- never a reference, never a new object -/
def plE : E → Bool
  | .cst _ => true
  | .glb _ _ => true
  | .tup _ => true
  | .fz _ => true
  | .join _ _ => true
  | .maxd _ _ => true
  | .bin o _ _ => match o with
    | .add => false
    | _ => true
  | .neg _ => true
  | .cmp _ _ _ => true
  | .and a b => plE a && plE b
  | .or a b => plE a && plE b
  | .not _ => true
  | .ite _ a b => plE a && plE b
  | .blt f _ => match f with
    | .list => false
    | .sorted => false
    | _ => true
  | .isi _ _ => true
  | .isiT _ _ => true
  | .met _ _ _ => true
  | .ext _ _ => true
  | .ix _ _ => true
  | _ => false
def plA : Es → Bool
  | .nil => true
  | .cons e r => plE e && plA r
/-- never a reference -/
def nrE : E → Bool
  | .var _ => false
  | .and a b => nrE a && nrE b
  | .or a b => nrE a && nrE b
  | .ite _ a b => nrE a && nrE b
  | _ => true
def isV : E → Bool
  | .var _ => true
  | _ => false
mutual
def okE : E → Bool
  | .var _ => true
  | .cst x => x.bel 0
  | .glb _ x => x.bel 0
  | .tup es => okA es && plA es
  | .lst es => okA es && plA es
  | .dic0 => true
  | .join _ a => okE a
  | .maxd a _ => okE a
  | .bin _ a b => okE a && okE b
  | .neg a => okE a
  | .cmp _ a b => okE a && okE b
  | .and a b => okE a && okE b
  | .or a b => okE a && okE b
  | .not a => okE a
  | .ite c a b => okE c && okE a && okE b
  | .call _ es => okA es
  | .blt _ es => okA es
  | .isi a _ => okE a
  | .isiT a _ => okE a
  | .fz a => okE a
  | .call0 _ => true
  | .met _ o es => okE o && okA es && plA es
  | .ext o a => okE o && okE a
  | .ix a i => okE a && okE i
  | .sl a lo hi => okE a && okO lo && okO hi
  | .rev a => okE a
  | .rep a b => okE a && okE b
  | .comp _ _ it c e => okI it && okO c && okE e && plE e
def okA : Es → Bool
  | .nil => true
  | .cons e r => okE e && okA r
def okO : Eo → Bool
  | .none => true
  | .some e => okE e
def okI : It → Bool
  | .e a => okE a && (isV a || nrE a)
  | .rg1 a => okE a
  | .rg2 a b => okE a && okE b
  | .enum a => okE a && (isV a || nrE a)
  | .zip a b => okE a && okE b && (isV a || nrE a) && (isV b || nrE b)
  | .rv a => okE a && (isV a || nrE a)
  | .rvr a => okE a
end
def vrE : E → List Nat
  | .var i => [i]
  | _ => []
/-- the slots that a loop walks -/
def vrI : It → List Nat
  | .e a => vrE a
  | .rg1 _ => []
  | .rg2 _ _ => []
  | .enum a => vrE a
  | .zip a b => vrE a ++ vrE b
  | .rv a => vrE a
  | .rvr _ => []
mutual
/-- the object of a slot stays the same one -/
def kpS (l : Nat) : C → Bool
  | .set i _ => decide (i ≠ l)
  | .ite _ a b => kpB l a && kpB l b
  | .wh _ b => kpB l b
  | .for _ _ b => kpB l b
  | .tryE _ b _ _ _ _ _ => kpB l b
  | .tryH _ b _ _ hs => kpB l b && kpH l hs
  | .asg _ _ => true
  | .par _ _ _ _ => true
  | .setIx _ _ _ => true
  | .aug _ _ _ => true
  | .ex _ => true
  | .ret _ => true
  | .pass => true
  | .cont => true
  | .brk => true
  | .rse _ _ => true
  | .never => true
def kpB (l : Nat) : Cs → Bool
  | .nil => true
  | .cons c r => kpS l c && kpB l r
  | .kill is r => !is.contains l && kpB l r
def kpH (l : Nat) : Hl → Bool
  | .nil => true
  | .cons _ b r => kpB l b && kpH l r
end
def isTt : Tg → Bool
  | .t _ => true
  | .n _ => false
mutual
def okS (np n : Nat) : C → Bool
  | .set i e => okE e && decide (i < n)
  | .asg t e => okE e && isTt t
  | .par _ _ a b => okE a && plE a && okE b && plE b
  | .setIx o i e => okE o && okE i && okE e && plE e
  | .aug _ _ e => okE e
  | .ex e => okE e
  | .ret e => okO e
  | .ite c a b => okE c && okB np n a && okB np n b
  | .wh c b => okE c && okB np n b
  | .for _ it b => okI it && okB np n b && (vrI it).all fun l => kpB l b
  | .pass => true
  | .cont => true
  | .brk => true
  | .rse _ _ => true
  | .tryE _ b _ _ _ _ _ => okB np n b
  | .tryH _ b _ _ hs => okB np n b && okH np n hs
  | .never => true
def okB (np n : Nat) : Cs → Bool
  | .nil => true
  | .cons c r => okS np n c && okB np n r
  | .kill is r => (is.all fun i => decide (np ≤ i)) && okB np n r
def okH (np n : Nat) : Hl → Bool
  | .nil => true
  | .cons _ b r => okB np n b && okH np n r
end
end Fe

/-! Fv2: the two interpreters side by side: expressions -/
namespace Fe
open PySem
abbrev Th := Nat → Option Nat
structure Rel (θ : Th) (S1 S2 : Sto) : Prop where
  inj : ∀ l m q, θ l = some q → θ m = some q → l = m
  get : ∀ l q, θ l = some q → ∃ o, S2[l]? = some o ∧ S1[q]? = some o
  f1 : belS 0 S1 = true
  f2 : belS 0 S2 = true
inductive VRel (θ : Th) : Val → Val → Prop
  | ref {l q : Nat} : θ l = some q → VRel θ (.ref q) (.ref l)
  | flat {x : Val} : x.bel 0 = true → VRel θ x x
inductive RRel (θ : Th) : Rv → Rv → Prop
  | v {y x : Val} : VRel θ y x → RRel θ (.v y) (.v x)
  | t {o : Ob} : o.bel 0 = true → RRel θ (.t o) (.t o)
inductive VRels (θ : Th) : List Val → List Val → Prop
  | nil : VRels θ [] []
  | cons {y x : Val} {ys xs : List Val} : VRel θ y x → VRels θ ys xs → VRels θ (y :: ys) (x :: xs)
inductive RRels (θ : Th) : List Rv → List Rv → Prop
  | nil : RRels θ [] []
  | cons {y x : Rv} {ys xs : List Rv} : RRel θ y x → RRels θ ys xs → RRels θ (y :: ys) (x :: xs)
structure ERel (θ : Th) (env1 env2 : Env) : Prop where
  len : env1.length = env2.length
  at' : ∀ (i : Nat) (x : Val), env2[i]? = some (some x) → ∃ y, env1[i]? = some (some y) ∧ VRel θ y x
  own : ∀ (i l : Nat), env2[i]? = some (some (.ref l)) → l = i
def Out (θ : Th) (S1 S1' : Sto) : Prop := ∀ q, q < S1.length → (∀ l, θ l ≠ some q) → S1'[q]? = S1[q]?
section
variable {θ θ' : Th} {S1 S2 S1' S2' : Sto}
theorem Out.refl : Out θ S1 S1 := fun _ _ _ => rfl
theorem Out.trans {S1'' : Sto} (h : Out θ S1 S1') (hl : S1.length ≤ S1'.length) (h' : Out θ S1' S1'') : Out θ S1 S1'' := fun q hq n => by rw [h' q (by omega) n, h q hq n]
theorem belS_app : ∀ {S : Sto} {o : Ob} {n : Nat}, belS n S = true → o.bel n = true → belS n (S ++ [o]) = true
  | [], o, n, _, h => by simp [belS, h]
  | x :: S, o, n, h, h' => by
    simp only [belS, Bool.and_eq_true] at h
    simp only [List.cons_append, belS, Bool.and_eq_true]
    exact ⟨h.1, belS_app h.2 h'⟩
theorem belS_of : ∀ {S : Sto} {n : Nat}, (∀ o ∈ S, o.bel n = true) → belS n S = true
  | [], _, _ => rfl
  | x :: S, n, h => by
    simp only [belS, Bool.and_eq_true]
    exact ⟨h x (by simp), belS_of fun y hy => h y (by simp [hy])⟩
theorem belS_set {S : Sto} {o : Ob} {n l : Nat} (h : belS n S = true) (h' : o.bel n = true) : belS n (S.set l o) = true := belS_of fun x hx => by
  rcases List.mem_or_eq_of_mem_set hx with hx | rfl
  · exact belS_mem h hx
  · exact h'
theorem belS_take {S : Sto} {n m : Nat} (h : belS n S = true) : belS n (S.take m) = true := belS_of fun x hx => belS_mem h (List.mem_of_mem_take hx)
mutual
theorem bel_up : ∀ (x : Val) (n : Nat), x.bel 0 = true → x.bel n = true
  | .non, n, h => by simp [Val.bel]
  | .bl _, n, h => by simp [Val.bel]
  | .int _, n, h => by simp [Val.bel]
  | .str _, n, h => by simp [Val.bel]
  | .tup xs, n, h => by rw [bel_tup] at h ⊢; exact belL_up xs n h
  | .fls xs, n, h => by rw [bel_fls] at h ⊢; exact belL_up xs n h
  | .ref l, n, h => by rw [bel_ref0] at h; cases h
theorem belL_up : ∀ (xs : List Val) (n : Nat), Val.belL 0 xs = true → Val.belL n xs = true
  | [], n, h => rfl
  | x :: xs, n, h => by
    simp only [Val.belL, Bool.and_eq_true] at h ⊢
    exact ⟨bel_up x n h.1, belL_up xs n h.2⟩
end
theorem belO_up {o : Ob} (n : Nat) (h : o.bel 0 = true) : o.bel n = true := by
  cases o with
  | lst xs => exact belL_up xs n h
  | dic kvs => exact belKV_of fun p hp => ⟨bel_up _ n (belKV_mem h p hp).1, bel_up _ n (belKV_mem h p hp).2⟩
  | ins c fs =>
    have : ∀ fs : List (Str × Val), belF 0 fs = true → belF n fs = true := by
      intro fs
      induction fs with
      | nil => intro _; rfl
      | cons p r ih =>
        intro h
        simp only [belF, Bool.and_eq_true] at h ⊢
        exact ⟨bel_up _ n h.1, ih h.2⟩
    exact this fs h
theorem belS_up {S : Sto} (n : Nat) (h : belS 0 S = true) : belS n S = true := belS_of fun o ho => belO_up n (belS_mem h ho)
theorem VRel.mono (m : ∀ l q, θ l = some q → θ' l = some q) {y x : Val} (h : VRel θ y x) : VRel θ' y x := by
  cases h with
  | ref h => exact .ref (m _ _ h)
  | flat h => exact .flat h
theorem VRels.mono (m : ∀ l q, θ l = some q → θ' l = some q) {y x : List Val} (h : VRels θ y x) : VRels θ' y x := by
  induction h with
  | nil => exact .nil
  | cons h _ ih => exact .cons (h.mono m) ih
theorem ERel.mono (m : ∀ l q, θ l = some q → θ' l = some q) {env1 env2 : Env} (h : ERel θ env1 env2) : ERel θ' env1 env2 :=
  ⟨h.len, fun i x e => let ⟨y, h1, h2⟩ := h.at' i x e; ⟨y, h1, h2.mono m⟩, h.own⟩
theorem FlR.rel {r : Rv} (h : FlR r) : RRel θ r r := by
  cases r with
  | v x => exact .v (.flat h)
  | t o => exact .t h
theorem RRel.nm (R : Rel θ S1 S2) {r1 r2 : Rv} (h : RRel θ r1 r2) : nm S1 r1 = nm S2 r2 ∧ FlR (nm S2 r2) := by
  cases h with
  | v h => cases h with
    | ref h =>
      obtain ⟨o, h1, h2⟩ := R.get _ _ h
      simp only [Fe.nm, h1, h2]
      exact ⟨trivial, belS_mem R.f2 (List.mem_of_getElem? h1)⟩
    | flat h => rename_i x; cases x <;> first | exact ⟨rfl, h⟩ | (rw [bel_ref0] at h; cases h)
  | t h => exact ⟨rfl, h⟩
theorem Rel.set (R : Rel θ S1 S2) {l q : Nat} (h : θ l = some q) {o : Ob} (ho : o.bel 0 = true) : Rel θ (S1.set q o) (S2.set l o) := by
  refine ⟨R.inj, fun m p hm => ?_, belS_set R.f1 ho, belS_set R.f2 ho⟩
  obtain ⟨o1, h1, h2⟩ := R.get m p hm
  obtain ⟨o3, h3, h4⟩ := R.get l q h
  by_cases e : m = l
  · subst e
    rw [h] at hm
    cases hm
    have l1 := (List.getElem?_eq_some_iff.mp h1).1
    have l2 := (List.getElem?_eq_some_iff.mp h2).1
    exact ⟨o, by rw [List.getElem?_set_self l1], by rw [List.getElem?_set_self l2]⟩
  · have e2 : p ≠ q := fun z => e (R.inj m l q (by rw [hm, z]) h)
    exact ⟨o1, by rw [List.getElem?_set_ne (Ne.symm e)]; exact h1, by rw [List.getElem?_set_ne (Ne.symm e2)]; exact h2⟩
theorem Out.set {l q : Nat} (h : θ l = some q) (o : Ob) : Out θ S1 (S1.set q o) := fun p hp n => by
  rw [List.getElem?_set_ne (fun z => n l (by rw [h, z]))]
/-- outcomes -/
def SimR {α β : Type} (P : α → β → Prop) (θ : Th) (S1 S2 : Sto) (r1 : Res α) (r2 : Res β) : Prop := match r2 with
  | .ok b S2' => ∃ a S1', r1 = .ok a S1' ∧ P a b ∧ Rel θ S1' S2' ∧ S1'.length = S1.length ∧ S2'.length = S2.length ∧ Out θ S1 S1'
  | .exc x S2' => ∃ S1', r1 = .exc x S1' ∧ Rel θ S1' S2' ∧ S1.length ≤ S1'.length ∧ S2.length ≤ S2'.length ∧ Out θ S1 S1'
  | .bad => True
variable {α β γ δ : Type} {P : α → β → Prop} {Q : γ → δ → Prop}
theorem SimR.ok (R : Rel θ S1 S2) {a : α} {b : β} (h : P a b) : SimR P θ S1 S2 (.ok a S1) (.ok b S2) := ⟨a, S1, rfl, h, R, rfl, rfl, Out.refl⟩
theorem SimR.of (R : Rel θ S1 S2) {o : Option α} {o' : Option β} (h : ∀ b, o' = some b → ∃ a, o = some a ∧ P a b) : SimR P θ S1 S2 (.of o S1) (.of o' S2) := by
  cases o' with
  | none => trivial
  | some b =>
    obtain ⟨a, rfl, h2⟩ := h b rfl
    exact SimR.ok R h2
theorem SimR.step (hl1 : S1'.length = S1.length) (hl2 : S2'.length = S2.length) (ho : Out θ S1 S1') {r1 : Res α} {r2 : Res β} (h : SimR P θ S1' S2' r1 r2) : SimR P θ S1 S2 r1 r2 := by
  cases r2 with
  | ok b S =>
    obtain ⟨a, S3, e, p, R, l1, l2, o⟩ := h
    exact ⟨a, S3, e, p, R, by omega, by omega, ho.trans (by omega) o⟩
  | exc x S =>
    obtain ⟨S3, e, R, l1, l2, o⟩ := h
    exact ⟨S3, e, R, by omega, by omega, ho.trans (by omega) o⟩
  | bad => trivial
theorem SimR.bind {r1 : Res α} {r2 : Res β} {f : α → Sto → Res γ} {g : β → Sto → Res δ} (h : SimR P θ S1 S2 r1 r2) (k : ∀ a b S1' S2', P a b → Rel θ S1' S2' → SimR Q θ S1' S2' (f a S1') (g b S2')) : SimR Q θ S1 S2 (r1.bind f) (r2.bind g) := by
  cases r2 with
  | ok b S =>
    obtain ⟨a, S3, rfl, p, R, l1, l2, o⟩ := h
    exact SimR.step l1 l2 o (k a b S3 S p R)
  | exc x S =>
    obtain ⟨S3, rfl, R, l1, l2, o⟩ := h
    exact ⟨S3, rfl, R, l1, l2, o⟩
  | bad => trivial
theorem SimR.imp {Q : α → β → Prop} {r1 : Res α} {r2 : Res β} (h : SimR P θ S1 S2 r1 r2) (k : ∀ a b, P a b → Q a b) : SimR Q θ S1 S2 r1 r2 := by
  cases r2 with
  | ok b S => obtain ⟨a, S3, e, p, r⟩ := h; exact ⟨a, S3, e, k a b p, r⟩
  | exc x S => exact h
  | bad => trivial
theorem SimR.nox {r1 : Res α} {r2 : Res β} (h : SimR P θ S1 S2 r1 r2) : SimR P θ S1 S2 r1.nox r2.nox := by
  cases r2 with
  | ok b S => obtain ⟨a, S3, rfl, r⟩ := h; exact ⟨a, S3, rfl, r⟩
  | exc x S => trivial
  | bad => trivial
theorem SimR.ite {r1 q1 : Res α} {r2 q2 : Res β} {k : Bool} (h1 : k = true → SimR P θ S1 S2 r1 r2) (h2 : k = false → SimR P θ S1 S2 q1 q2) : SimR P θ S1 S2 (if k = true then r1 else q1) (if k = true then r2 else q2) := by
  cases k with
  | true => exact h1 rfl
  | false => exact h2 rfl
end
/-! ### calls -/
/-- behind a call: a plain thing, or a new object -/
def CRel (n : Nat) (S1' : Sto) (r1 r2 : Rv) : Prop := match r2 with
  | .v x => x.bel 0 = true ∧ r1 = .v x
  | .t o => o.bel 0 = true ∧ (r1 = .t o ∨ ∃ q, r1 = .v (.ref q) ∧ n ≤ q ∧ S1'[q]? = some o)
/-- .. where new objects that nobody can reach may be of any kind -/
structure RelW (θ : Th) (n : Nat) (S1 S2 : Sto) : Prop where
  inj : ∀ l m q, θ l = some q → θ m = some q → l = m
  get : ∀ l q, θ l = some q → ∃ o, S2[l]? = some o ∧ S1[q]? = some o
  f1 : belS 0 (S1.take n) = true
  f2 : belS 0 S2 = true
theorem Rel.w {θ : Th} {S1 S2 : Sto} (R : Rel θ S1 S2) (n : Nat) : RelW θ n S1 S2 := ⟨R.inj, R.get, belS_take R.f1, R.f2⟩
def SimT (θ : Th) (S1 S2 : Sto) (r1 r2 : Res Rv) : Prop := match r2 with
  | .ok b S2' => ∃ a S1', r1 = .ok a S1' ∧ CRel S1.length S1' a b ∧ RelW θ S1.length S1' S2' ∧ S1.length ≤ S1'.length ∧ S2'.length = S2.length ∧ Out θ S1 S1'
  | .exc x S2' => ∃ S1', r1 = .exc x S1' ∧ Rel θ S1' S2' ∧ S1.length ≤ S1'.length ∧ S2.length ≤ S2'.length ∧ Out θ S1 S1'
  | .bad => True
def SimF (T1 T2 : Fns) : Prop := ∀ f xs1 xs2 S1 S2 θ, Rel θ S1 S2 → VRels θ xs1 xs2 → SimT θ S1 S2 (T1 f xs1 S1) (T2 f xs2 S2)
theorem cut_v {x : Val} {S : Sto} {n : Nat} (h : belS 0 (S.take n) = true) (hx : x.bel 0 = true) : cut n (.v x) S = .ok (.v x) (S.take n) := by
  unfold cut
  rw [if_pos (belS_up n h)]
  cases x <;> first | (rw [bel_ref0] at hx; cases hx; done) | (simp only []; rw [if_pos (show Rv.bel n (.v _) = true from bel_up _ n hx)])
theorem cut_o {o : Ob} {S : Sto} {n : Nat} (h : belS 0 (S.take n) = true) (ho : o.bel 0 = true) : cut n (.t o) S = .ok (.t o) (S.take n) := by
  unfold cut
  rw [if_pos (belS_up n h)]
  simp only []
  rw [if_pos (show Rv.bel n (.t o) = true from belO_up n ho)]
theorem cut_q {o : Ob} {S : Sto} {n q : Nat} (h : belS 0 (S.take n) = true) (hq : n ≤ q) (ho : S[q]? = some o) (hb : o.bel 0 = true) : cut n (.v (.ref q)) S = .ok (.t o) (S.take n) := by
  unfold cut
  rw [if_pos (belS_up n h)]
  simp only []
  rw [if_neg (by omega), ho]
  simp only []
  rw [if_pos (belO_up n hb)]
structure Ext2 (θ : Th) (S1 S2 : Sto) (θ' : Th) (S1' S2' : Sto) : Prop where
  l1 : S1.length ≤ S1'.length
  l2 : S2.length ≤ S2'.length
  same : ∀ l, l < S2.length → θ' l = θ l
  new : ∀ l q, S2.length ≤ l → θ' l = some q → S1.length ≤ q
  out : Out θ S1 S1'
def SimA (θ : Th) (S1 S2 : Sto) (r1 r2 : Res (List Val)) : Prop := match r2 with
  | .ok xs2 S2' => ∃ xs1 S1' θ', r1 = .ok xs1 S1' ∧ VRels θ' xs1 xs2 ∧ Rel θ' S1' S2' ∧ Ext2 θ S1 S2 θ' S1' S2'
  | .exc x S2' => ∃ S1', r1 = .exc x S1' ∧ Rel θ S1' S2' ∧ S1.length ≤ S1'.length ∧ S2.length ≤ S2'.length ∧ Out θ S1 S1'
  | .bad => True
section
variable {θ θ' : Th} {S1 S2 S1' S2' : Sto}
theorem Rel.dom (R : Rel θ S1 S2) {l q : Nat} (h : θ l = some q) : l < S2.length ∧ q < S1.length := by
  obtain ⟨o, h1, h2⟩ := R.get l q h
  exact ⟨(List.getElem?_eq_some_iff.mp h1).1, (List.getElem?_eq_some_iff.mp h2).1⟩
theorem Ext2.mono (R : Rel θ S1 S2) (e : Ext2 θ S1 S2 θ' S1' S2') : ∀ l q, θ l = some q → θ' l = some q := fun l q h => by rw [e.same l (R.dom h).1, h]
theorem Ext2.refl (R : Rel θ S1 S2) : Ext2 θ S1 S2 θ S1 S2 := ⟨Nat.le_refl _, Nat.le_refl _, fun _ _ => rfl, fun l q h1 h2 => by
  have := (R.dom h2).1
  omega, Out.refl⟩
theorem Ext2.trans {θ2 : Th} {S1'' S2'' : Sto} (R : Rel θ S1 S2) (e : Ext2 θ S1 S2 θ' S1' S2') (f : Ext2 θ' S1' S2' θ2 S1'' S2'') : Ext2 θ S1 S2 θ2 S1'' S2'' := by
  have a1 := e.l1
  have a2 := e.l2
  have b1 := f.l1
  have b2 := f.l2
  refine ⟨by omega, by omega, fun l h => by rw [f.same l (by omega), e.same l h], fun l q h1 h2 => ?_, fun q hq n => ?_⟩
  · by_cases h : l < S2'.length
    · exact e.new l q h1 (by rw [← f.same l h]; exact h2)
    · have := f.new l q (by omega) h2
      omega
  · rw [f.out q (by omega) fun l z => ?_, e.out q hq n]
    by_cases h : l < S2.length
    · exact n l (by rw [← e.same l h]; exact z)
    · have := e.new l q (by omega) z
      omega
theorem Rel.sub (m : ∀ l q, θ l = some q → θ' l = some q) (R : Rel θ' S1 S2) : Rel θ S1 S2 := ⟨fun l k q h1 h2 => R.inj l k q (m _ _ h1) (m _ _ h2), fun l q h => R.get l q (m _ _ h), R.f1, R.f2⟩
theorem RelW.take {k : Nat} (R : RelW θ k S1 S2) (m' : ∀ l q, θ' l = some q → θ l = some q) {n m : Nat} (hk : n ≤ k) (hn : ∀ l q, θ' l = some q → l < m ∧ q < n) : Rel θ' (S1.take n) (S2.take m) := by
  refine ⟨fun l k q h1 h2 => R.inj l k q (m' _ _ h1) (m' _ _ h2), fun l q h => ?_, ?_, belS_take R.f2⟩
  · obtain ⟨o, h1, h2⟩ := R.get l q (m' _ _ h)
    obtain ⟨a, b⟩ := hn l q h
    exact ⟨o, by rw [List.getElem?_take, if_pos a]; exact h1, by rw [List.getElem?_take, if_pos b]; exact h2⟩
  · have := belS_take (m := n) R.f1
    rwa [List.take_take, Nat.min_eq_left hk] at this
theorem Rel.take (R : Rel θ S1 S2) {n m : Nat} (hn : ∀ l q, θ l = some q → l < m ∧ q < n) : Rel θ (S1.take n) (S2.take m) := by
  refine ⟨R.inj, fun l q h => ?_, belS_take R.f1, belS_take R.f2⟩
  obtain ⟨o, h1, h2⟩ := R.get l q h
  obtain ⟨a, b⟩ := hn l q h
  exact ⟨o, by rw [List.getElem?_take, if_pos a]; exact h1, by rw [List.getElem?_take, if_pos b]; exact h2⟩
/-- a new object is laid on both sides -/
theorem Rel.lay (R : Rel θ S1 S2) {r1 r2 : Rv} (h : RRel θ r1 r2) : ∃ θ', VRel θ' (lay r1 S1).1 (lay r2 S2).1 ∧ Rel θ' (lay r1 S1).2 (lay r2 S2).2 ∧ Ext2 θ S1 S2 θ' (lay r1 S1).2 (lay r2 S2).2 := by
  cases h with
  | v h => exact ⟨θ, h, R, Ext2.refl R⟩
  | t h =>
    rename_i o
    refine ⟨fun l => if l = S2.length then some S1.length else θ l, .ref (by simp), ⟨fun l m q h1 h2 => ?_, fun l q h1 => ?_, belS_app R.f1 h, belS_app R.f2 h⟩, ⟨by simp [Fe.lay], by simp [Fe.lay], fun l h => by rw [if_neg (by omega)], fun l q h1 h2 => ?_, fun q hq n => ?_⟩⟩
    · split at h1 <;> split at h2
      · omega
      · cases h1; have := (R.dom h2).2; omega
      · cases h2; have := (R.dom h1).2; omega
      · exact R.inj l m q h1 h2
    · split at h1
      · cases h1
        rename_i e
        subst e
        exact ⟨o, by simp [Fe.lay], by simp [Fe.lay]⟩
      · obtain ⟨o1, g1, g2⟩ := R.get l q h1
        have d := R.dom h1
        exact ⟨o1, by simp only [Fe.lay]; rw [List.getElem?_append_left d.1]; exact g1, by simp only [Fe.lay]; rw [List.getElem?_append_left d.2]; exact g2⟩
    · split at h2
      · cases h2; exact Nat.le_refl _
      · have := (R.dom h2).1; omega
    · simp only [Fe.lay]
      rw [List.getElem?_append_left hq]
/-- a call, then what is unreachable is dropped -/
theorem SimT.cut {θ0 : Th} {S01 S02 : Sto} (R0 : Rel θ0 S01 S02) (e : Ext2 θ0 S01 S02 θ S1 S2) {r1 r2 : Res Rv} (h : SimT θ S1 S2 r1 r2) : SimR (fun r1 r2 => RRel θ0 r1 r2 ∧ ∀ l, r2 ≠ .v (.ref l)) θ0 S01 S02 (r1.bind fun r S => Fe.cut S01.length r S) (r2.bind fun r S => Fe.cut S02.length r S) := by
  have a1 := e.l1
  have a2 := e.l2
  cases r2 with
  | bad => trivial
  | exc x S2' =>
    obtain ⟨S1', rfl, R, l1, l2, o⟩ := h
    refine ⟨S1', rfl, R.sub (e.mono R0), by omega, by omega, fun q hq n => ?_⟩
    rw [o q (by omega) fun l z => ?_, e.out q hq n]
    by_cases hh : l < S02.length
    · exact n l (by rw [← e.same l hh]; exact z)
    · have := e.new l q (by omega) z
      omega
  | ok b S2' =>
    obtain ⟨a, S1', rfl, c, R, l1, l2, o⟩ := h
    have key : ∀ (r : Rv), Fe.cut S01.length a S1' = .ok r (S1'.take S01.length) → Fe.cut S02.length b S2' = .ok b (S2'.take S02.length) → (RRel θ0 r b ∧ ∀ l, b ≠ .v (.ref l)) → SimR (fun r1 r2 => RRel θ0 r1 r2 ∧ ∀ l, r2 ≠ .v (.ref l)) θ0 S01 S02 (Fe.cut S01.length a S1') (Fe.cut S02.length b S2') := by
      intro r e1 e2 p
      rw [e1, e2]
      refine ⟨r, _, rfl, p, R.take (e.mono R0) a1 (fun l q h => R0.dom h), by rw [List.length_take]; omega, by rw [List.length_take]; omega, fun q hq n => ?_⟩
      rw [List.getElem?_take, if_pos hq, o q (by omega) fun l z => ?_, e.out q hq n]
      by_cases hh : l < S02.length
      · exact n l (by rw [← e.same l hh]; exact z)
      · have := e.new l q (by omega) z
        omega
    have f1 : belS 0 (S1'.take S01.length) = true := by
      have := belS_take (m := S01.length) R.f1
      rwa [List.take_take, Nat.min_eq_left a1] at this
    have f2 : belS 0 (S2'.take S02.length) = true := belS_take R.f2
    cases b with
    | v x =>
      obtain ⟨hx, rfl⟩ := c
      exact key _ (cut_v f1 hx) (cut_v f2 hx) ⟨.v (.flat hx), fun l z => by cases z; rw [bel_ref0] at hx; cases hx⟩
    | t ob =>
      obtain ⟨ho, c⟩ := c
      rcases c with rfl | ⟨q, rfl, hq, hs⟩
      · exact key _ (cut_o f1 ho) (cut_o f2 ho) ⟨.t ho, fun l z => nomatch z⟩
      · exact key _ (cut_q f1 (by omega) hs ho) (cut_o f2 ho) ⟨.t ho, fun l z => nomatch z⟩
end
/-! ### environments -/
section
variable {θ : Th}
theorem ERel.set {env1 env2 : Env} (E : ERel θ env1 env2) (i : Nat) {x : Val} (hx : x.bel 0 = true) : ERel θ (env1.set i (some x)) (env2.set i (some x)) := by
  refine ⟨by simp [E.len], fun j y h => ?_, fun j l h => ?_⟩
  · by_cases e : i = j
    · subst e
      have hl : i < env2.length := by
        have := (List.getElem?_eq_some_iff.mp h).1
        simpa using this
      rw [List.getElem?_set_self hl] at h
      cases h
      exact ⟨_, by rw [List.getElem?_set_self (by rw [E.len]; exact hl)], .flat hx⟩
    · rw [List.getElem?_set_ne e] at h ⊢
      exact E.at' j y h
  · by_cases e : i = j
    · subst e
      have hl : i < env2.length := by
        have := (List.getElem?_eq_some_iff.mp h).1
        simpa using this
      rw [List.getElem?_set_self hl] at h
      cases h
      rw [bel_ref0] at hx
      cases hx
    · rw [List.getElem?_set_ne e] at h
      exact E.own j l h
theorem ERel.wipe {env1 env2 : Env} (E : ERel θ env1 env2) (own : List Nat) : ERel θ (wipeE env1 own) (wipeE env2 own) := by
  induction own with
  | nil => exact E
  | cons v vs ih =>
    simp only [wipeE]
    refine ⟨by simp [ih.len], fun j y h => ?_, fun j l h => ?_⟩
    · by_cases e : v = j
      · subst e
        have hl : v < (wipeE env2 vs).length := by
          have := (List.getElem?_eq_some_iff.mp h).1
          simpa using this
        rw [List.getElem?_set_self hl] at h
        cases h
      · rw [List.getElem?_set_ne e] at h ⊢
        exact ih.at' j y h
    · by_cases e : v = j
      · subst e
        have hl : v < (wipeE env2 vs).length := by
          have := (List.getElem?_eq_some_iff.mp h).1
          simpa using this
        rw [List.getElem?_set_self hl] at h
        cases h
      · rw [List.getElem?_set_ne e] at h
        exact ih.own j l h
mutual
theorem asgT_sim : ∀ (t : Tg) (x : Val) (env1 env2 env2' : Env), ERel θ env1 env2 → x.bel 0 = true → asgT t x env2 = some env2' → ∃ env1', asgT t x env1 = some env1' ∧ ERel θ env1' env2'
  | .n i, x, env1, env2, env2', E, hx, h => by
    simp only [asgT] at h ⊢
    cases h
    exact ⟨_, rfl, E.set i hx⟩
  | .t ts, x, env1, env2, env2', E, hx, h => by
    cases x with
    | tup xs =>
      simp only [asgT] at h ⊢
      rw [bel_tup] at hx
      exact asgTs_sim ts xs env1 env2 env2' E hx h
    | _ => simp [asgT] at h
theorem asgTs_sim : ∀ (t : List Tg) (x : List Val) (env1 env2 env2' : Env), ERel θ env1 env2 → Val.belL 0 x = true → asgTs t x env2 = some env2' → ∃ env1', asgTs t x env1 = some env1' ∧ ERel θ env1' env2'
  | [], x, env1, env2, env2', E, hx, h => by
    cases x with
    | nil => simp only [asgTs] at h ⊢; cases h; exact ⟨_, rfl, E⟩
    | cons _ _ => simp [asgTs] at h
  | t :: ts, x, env1, env2, env2', E, hx, h => by
    cases x with
    | nil => simp [asgTs] at h
    | cons x xs =>
      simp only [Val.belL, Bool.and_eq_true] at hx
      simp only [asgTs] at h ⊢
      cases q : asgT t x env2 with
      | none => rw [q] at h; cases h
      | some e2 =>
        rw [q] at h
        obtain ⟨e1, h1, E1⟩ := asgT_sim t x env1 env2 e2 E hx.1 q
        rw [h1]
        exact asgTs_sim ts xs e1 e2 env2' E1 hx.2 h
end
end
/-! ### what a loop walks -/
inductive LRel (θ : Th) : List (Nat × List Val) → List (Nat × List Val) → Prop
  | nil : LRel θ [] []
  | cons {q l : Nat} {xs : List Val} {r1 r2 : List (Nat × List Val)} : θ l = some q → LRel θ r1 r2 → LRel θ ((q, xs) :: r1) ((l, xs) :: r2)
theorem LRel.ok {θ : Th} {S1 S2 : Sto} (R : Rel θ S1 S2) {l1 l2 : List (Nat × List Val)} (h : LRel θ l1 l2) : liveOk S2 l2 → liveOk S1 l1 := by
  induction h with
  | nil => intro _; trivial
  | cons h _ ih =>
    intro k
    obtain ⟨o, h1, h2⟩ := R.get _ _ h
    refine ⟨?_, ih k.2⟩
    have k1 := k.1
    rw [h1] at k1
    cases k1
    exact h2
theorem LRel.app {θ : Th} {l1 l2 m1 m2 : List (Nat × List Val)} (h : LRel θ l1 l2) (h' : LRel θ m1 m2) : LRel θ (l1 ++ m1) (l2 ++ m2) := by
  induction h with
  | nil => exact h'
  | cons h _ ih => exact .cons h ih
structure SRel (θ : Th) (vs : List Nat) (s1 s2 : Src) : Prop where
  items : s1.items = s2.items
  flat : Val.belL 0 s2.items = true
  live : LRel θ s1.live s2.live
  own : ∀ p ∈ s2.live, p.1 ∈ vs
theorem src_sim {θ : Th} {S1 S2 : Sto} (R : Rel θ S1 S2) {r1 r2 : Rv} (h : RRel θ r1 r2) {s2 : Src} (e : srcOf S2 r2 = some s2) : ∃ s1, srcOf S1 r1 = some s1 ∧ s1.items = s2.items ∧ Val.belL 0 s2.items = true ∧ LRel θ s1.live s2.live ∧ ∀ p ∈ s2.live, r2 = .v (.ref p.1) := by
  cases h with
  | v h => cases h with
    | ref h =>
      rename_i l q
      obtain ⟨o, h1, h2⟩ := R.get _ _ h
      simp only [srcOf, h1, h2] at e ⊢
      cases o with
      | lst xs =>
        cases e
        exact ⟨_, rfl, rfl, belS_mem R.f2 (List.mem_of_getElem? h1), .cons h .nil, fun p hp => by simp at hp; rw [hp]⟩
      | dic _ => cases e
      | ins _ _ => cases e
    | flat h =>
      rename_i x
      cases x with
      | tup xs => simp only [srcOf] at e ⊢; cases e; rw [bel_tup] at h; exact ⟨_, rfl, rfl, h, .nil, fun p hp => by cases hp⟩
      | fls xs => simp only [srcOf] at e ⊢; cases e; rw [bel_fls] at h; exact ⟨_, rfl, rfl, h, .nil, fun p hp => by cases hp⟩
      | str s =>
        simp only [srcOf] at e ⊢
        cases e
        refine ⟨_, rfl, rfl, belL_of fun x hx => ?_, .nil, fun p hp => by cases hp⟩
        obtain ⟨c, _, rfl⟩ := List.mem_map.mp hx
        exact bel_str 0 _
      | ref l => rw [bel_ref0] at h; cases h
      | _ => cases e
  | t h =>
    rename_i o
    cases o with
    | lst xs => simp only [srcOf] at e ⊢; cases e; exact ⟨_, rfl, rfl, h, .nil, fun p hp => by cases hp⟩
    | dic _ => cases e
    | ins _ _ => cases e
end Fe

/-! Fv3: the two interpreters side by side: expressions -/
namespace Fe
open PySem
variable {T1 T2 : Fns}
def PE2 (e : E) (θ : Th) (r1 r2 : Rv) : Prop := RRel θ r1 r2 ∧ (plE e = true → ∃ x, r2 = .v x ∧ x.bel 0 = true) ∧ (nrE e = true → ∀ l, r2 ≠ .v (.ref l))
def SE2 (T1 T2 : Fns) (e : E) : Prop := ∀ (θ : Th) (S1 S2 : Sto) (env1 env2 : Env), Rel θ S1 S2 → ERel θ env1 env2 → SimR (PE2 e θ) θ S1 S2 (evE T1 e env1 S1) (evE T2 e env2 S2)
def ST2 (T1 T2 : Fns) (e : E) : Prop := ∀ (θ : Th) (S1 S2 : Sto) (env1 env2 : Env), Rel θ S1 S2 → ERel θ env1 env2 → SimR Eq θ S1 S2 (evT T1 e env1 S1) (evT T2 e env2 S2)
def SA2 (T1 T2 : Fns) (es : Es) : Prop := ∀ (θ : Th) (S1 S2 : Sto) (env1 env2 : Env), Rel θ S1 S2 → ERel θ env1 env2 → SimA θ S1 S2 (evA T1 es env1 S1) (evA T2 es env2 S2)
def SP2 (T1 T2 : Fns) (es : Es) : Prop := ∀ (θ : Th) (S1 S2 : Sto) (env1 env2 : Env), Rel θ S1 S2 → ERel θ env1 env2 → SimR (fun xs1 xs2 => xs1 = xs2 ∧ Val.belL 0 xs2 = true) θ S1 S2 (evA T1 es env1 S1) (evA T2 es env2 S2)
def SR2 (T1 T2 : Fns) (es : Es) : Prop := ∀ (θ : Th) (S1 S2 : Sto) (env1 env2 : Env), Rel θ S1 S2 → ERel θ env1 env2 → SimR (RRels θ) θ S1 S2 (evR T1 es env1 S1) (evR T2 es env2 S2)
def SO2 (T1 T2 : Fns) (e : Eo) : Prop := ∀ (θ : Th) (S1 S2 : Sto) (env1 env2 : Env), Rel θ S1 S2 → ERel θ env1 env2 → SimR Eq θ S1 S2 (evO T1 e env1 S1) (evO T2 e env2 S2)
def SC2 (T1 T2 : Fns) (e : Eo) : Prop := ∀ (θ : Th) (S1 S2 : Sto) (env1 env2 : Env), Rel θ S1 S2 → ERel θ env1 env2 → SimR Eq θ S1 S2 (evC T1 e env1 S1) (evC T2 e env2 S2)
def SI2 (T1 T2 : Fns) (it : It) : Prop := ∀ (θ : Th) (S1 S2 : Sto) (env1 env2 : Env), Rel θ S1 S2 → ERel θ env1 env2 → SimR (SRel θ (vrI it)) θ S1 S2 (evI T1 it env1 S1) (evI T2 it env2 S2)
section
variable {θ : Th} {S1 S2 : Sto}
/-- an answer by an operation on what was looked up -/
theorem opS (R : Rel θ S1 S2) {e : E} {o1 o2 : Option Rv} (h : o1 = o2) (hf : FlO o2) (hp : plE e = true → ∀ r, o2 = some r → ∃ x, r = .v x) : SimR (PE2 e θ) θ S1 S2 (.of o1 S1) (.of o2 S2) := by
  subst h
  refine SimR.of R fun b hb => ⟨b, hb, (hf b hb).rel, fun p => ?_, fun _ l z => ?_⟩
  · obtain ⟨x, rfl⟩ := hp p b hb
    exact ⟨x, rfl, hf _ hb⟩
  · subst z
    have := hf _ hb
    simp only [FlR, bel_ref0] at this
    cases this
theorem opV (R : Rel θ S1 S2) {e : E} {o1 o2 : Option Val} (h : o1 = o2) (hf : FlV o2) : SimR (PE2 e θ) θ S1 S2 ((Res.of o1 S1).bind fun z S => .ok (.v z) S) ((Res.of o2 S2).bind fun z S => .ok (.v z) S) := by
  subst h
  cases o1 with
  | none => trivial
  | some z => exact SimR.ok R ⟨.v (.flat (hf z rfl)), fun _ => ⟨z, rfl, hf z rfl⟩, fun _ l q => by cases q; have := hf _ rfl; rw [bel_ref0] at this; cases this⟩
theorem opB (R : Rel θ S1 S2) {e : E} {o1 o2 : Option Bool} (h : o1 = o2) : SimR (PE2 e θ) θ S1 S2 ((Res.of o1 S1).bind fun z S => .ok (.v (.bl z)) S) ((Res.of o2 S2).bind fun z S => .ok (.v (.bl z)) S) := by
  subst h
  cases o1 with
  | none => trivial
  | some z => exact SimR.ok R ⟨.v (.flat (bel_bl 0 z)), fun _ => ⟨_, rfl, bel_bl 0 z⟩, fun _ l q => nomatch q⟩
theorem okV (R : Rel θ S1 S2) {e : E} {x : Val} (h : x.bel 0 = true) : SimR (PE2 e θ) θ S1 S2 (.ok (.v x) S1) (.ok (.v x) S2) := SimR.ok R ⟨.v (.flat h), fun _ => ⟨x, rfl, h⟩, fun _ l q => by cases q; rw [bel_ref0] at h; cases h⟩
end
theorem ST2.dup {e : E} (h : SE2 T1 T2 e) (h1 : evT T1 e = tst (evE T1 e)) (h2 : evT T2 e = tst (evE T2 e)) : ST2 T1 T2 e := by
  intro θ S1 S2 env1 env2 R E
  rw [h1, h2]
  refine SimR.bind (h θ S1 S2 env1 env2 R E) fun r1 r2 S1' S2' p R' => ?_
  have n := p.1.nm R'
  have e : truR S1' r1 = truR S2' r2 := by rw [← truR_nm S1' r1, ← truR_nm S2' r2, n.1]
  rw [e]
  exact SimR.of R' fun b hb => ⟨b, hb, rfl⟩
structure Both (T1 T2 : Fns) (e : E) : Prop where
  se : SE2 T1 T2 e
  st : ST2 T1 T2 e
theorem Both.dup {e : E} (h : SE2 T1 T2 e) (h1 : evT T1 e = tst (evE T1 e)) (h2 : evT T2 e = tst (evE T2 e)) : Both T1 T2 e := ⟨h, ST2.dup h h1 h2⟩
section
variable {a b c : E} {es : Es}
theorem s2_var (i : Nat) : SE2 T1 T2 (.var i) := fun θ S1 S2 env1 env2 R E => by
  simp only [evE_var]
  cases h : env2[i]? with
  | none => trivial
  | some o => cases o with
    | none => trivial
    | some x =>
      obtain ⟨y, h1, h2⟩ := E.at' i x h
      rw [h1]
      exact SimR.ok R ⟨.v h2, (fun z => by cases z), fun z => by cases z⟩
theorem s2_cst (x : Val) (h : x.bel 0 = true) : SE2 T1 T2 (.cst x) := fun θ S1 S2 env1 env2 R E => okV R h
theorem s2_glb (n : Str) (x : Val) (h : x.bel 0 = true) : SE2 T1 T2 (.glb n x) := fun θ S1 S2 env1 env2 R E => okV R h
theorem s2_tup (h : SP2 T1 T2 es) : SE2 T1 T2 (.tup es) := fun θ S1 S2 env1 env2 R E => by
  refine SimR.bind (h θ S1 S2 env1 env2 R E) fun xs1 xs2 S1' S2' p R' => ?_
  obtain ⟨rfl, hb⟩ := p
  exact okV R' (by rw [bel_tup]; exact hb)
theorem s2_lst (h : SP2 T1 T2 es) : SE2 T1 T2 (.lst es) := fun θ S1 S2 env1 env2 R E => by
  refine SimR.bind (h θ S1 S2 env1 env2 R E) fun xs1 xs2 S1' S2' p R' => ?_
  obtain ⟨rfl, hb⟩ := p
  exact SimR.ok R' ⟨.t hb, (fun z => by cases z), fun _ l z => nomatch z⟩
theorem s2_dic0 : SE2 T1 T2 .dic0 := fun θ S1 S2 env1 env2 R E => SimR.ok R ⟨.t rfl, (fun z => by cases z), fun _ l z => nomatch z⟩
theorem s2_join (m : Str) (h : SE2 T1 T2 a) : SE2 T1 T2 (.join m a) := fun θ S1 S2 env1 env2 R E => by
  refine SimR.bind (h θ S1 S2 env1 env2 R E) fun r1 r2 S1' S2' p R' => ?_
  obtain ⟨n, f⟩ := p.1.nm R'
  exact opV R' (by rw [← joinR_nm S1' m r1, ← joinR_nm S2' m r2, n]) (by rw [← joinR_nm]; exact joinR_fl m _)
theorem s2_maxd (d : Int) (h : SE2 T1 T2 a) : SE2 T1 T2 (.maxd a d) := fun θ S1 S2 env1 env2 R E => by
  refine SimR.bind (h θ S1 S2 env1 env2 R E) fun r1 r2 S1' S2' p R' => ?_
  obtain ⟨n, f⟩ := p.1.nm R'
  exact opV R' (by rw [← maxdR_nm S1' d r1, ← maxdR_nm S2' d r2, n]) (by rw [← maxdR_nm]; exact maxdR_fl d _)
theorem bin_int {o : Bop} (ho : o ≠ .add) {x y r : Rv} (h : binR [] o x y = some r) : ∃ i, r = .v (.int i) := by
  cases o with
  | add => exact absurd rfl ho
  | _ => unfold binR at h; split at h <;> first | (cases h; done) | (cases h; exact ⟨_, rfl⟩) | (split at h <;> first | (cases h; done) | (cases h; exact ⟨_, rfl⟩)) | (rename_i hh; exact nomatch hh)
theorem s2_bin (o : Bop) (h : SE2 T1 T2 a) (h' : SE2 T1 T2 b) : SE2 T1 T2 (.bin o a b) := fun θ S1 S2 env1 env2 R E => by
  refine SimR.bind (h θ S1 S2 env1 env2 R E) fun x1 x2 S1' S2' p R' => ?_
  refine SimR.bind (h' θ S1' S2' env1 env2 R' E) fun y1 y2 S1'' S2'' p' R'' => ?_
  obtain ⟨n, f⟩ := p.1.nm R''
  obtain ⟨n', f'⟩ := p'.1.nm R''
  refine opS R'' (by rw [← binR_nm S1'' o x1 y1, ← binR_nm S2'' o x2 y2, n, n']) (by rw [← binR_nm]; exact binR_fl f f') fun hp r hr => ?_
  rw [← binR_nm] at hr
  obtain ⟨i, rfl⟩ := bin_int (by intro z; subst z; cases hp) hr
  exact ⟨_, rfl⟩
theorem s2_neg (h : SE2 T1 T2 a) : SE2 T1 T2 (.neg a) := fun θ S1 S2 env1 env2 R E => by
  refine SimR.bind (h θ S1 S2 env1 env2 R E) fun r1 r2 S1' S2' p R' => ?_
  cases p.1 with
  | v h => cases h with
    | ref h => trivial
    | flat h => rename_i x; cases x with
      | int i => exact okV R' (bel_int 0 _)
      | _ => trivial
  | t h => trivial
theorem s2_cmp (o : Cop) (h : SE2 T1 T2 a) (h' : SE2 T1 T2 b) : SE2 T1 T2 (.cmp o a b) := fun θ S1 S2 env1 env2 R E => by
  refine SimR.bind (h θ S1 S2 env1 env2 R E) fun x1 x2 S1' S2' p R' => ?_
  refine SimR.bind (h' θ S1' S2' env1 env2 R' E) fun y1 y2 S1'' S2'' p' R'' => ?_
  obtain ⟨n, f⟩ := p.1.nm R''
  obtain ⟨n', f'⟩ := p'.1.nm R''
  exact opB R'' (by rw [← cmpR_nm S1'' o x1 y1, ← cmpR_nm S2'' o x2 y2, n, n'])
theorem tru_sim {θ : Th} {S1 S2 : Sto} (R : Rel θ S1 S2) {r1 r2 : Rv} (h : RRel θ r1 r2) : SimR Eq θ S1 S2 (Res.of (truR S1 r1) S1) (Res.of (truR S2 r2) S2) := by
  have n := h.nm R
  have e : truR S1 r1 = truR S2 r2 := by rw [← truR_nm S1 r1, ← truR_nm S2 r2, n.1]
  rw [e]
  exact SimR.of R fun b hb => ⟨b, hb, rfl⟩
theorem s2_and (h : Both T1 T2 a) (h' : Both T1 T2 b) : Both T1 T2 (.and a b) := by
  refine ⟨fun θ S1 S2 env1 env2 R E => ?_, fun θ S1 S2 env1 env2 R E => ?_⟩
  · refine SimR.bind (h.se θ S1 S2 env1 env2 R E) fun x1 x2 S1' S2' p R' => ?_
    refine SimR.bind (tru_sim R' p.1) fun k k' S1'' S2'' hk R'' => ?_
    subst hk
    refine SimR.ite (fun _ => (h'.se θ S1'' S2'' env1 env2 R'' E).imp fun a b q => ⟨q.1, fun z => ?_, fun z => ?_⟩) fun _ => SimR.ok R'' ⟨p.1, fun z => ?_, fun z => ?_⟩
    all_goals (simp only [plE, nrE, Bool.and_eq_true] at z)
    · exact q.2.1 z.2
    · exact q.2.2 z.2
    · exact p.2.1 z.1
    · exact p.2.2 z.1
  · refine SimR.bind (h.st θ S1 S2 env1 env2 R E) fun k k' S1' S2' hk R' => ?_
    subst hk
    exact SimR.ite (fun _ => h'.st θ S1' S2' env1 env2 R' E) fun _ => SimR.ok R' rfl
theorem s2_or (h : Both T1 T2 a) (h' : Both T1 T2 b) : Both T1 T2 (.or a b) := by
  refine ⟨fun θ S1 S2 env1 env2 R E => ?_, fun θ S1 S2 env1 env2 R E => ?_⟩
  · refine SimR.bind (h.se θ S1 S2 env1 env2 R E) fun x1 x2 S1' S2' p R' => ?_
    refine SimR.bind (tru_sim R' p.1) fun k k' S1'' S2'' hk R'' => ?_
    subst hk
    refine SimR.ite (fun _ => SimR.ok R'' ⟨p.1, fun z => ?_, fun z => ?_⟩) fun _ => (h'.se θ S1'' S2'' env1 env2 R'' E).imp fun a b q => ⟨q.1, fun z => ?_, fun z => ?_⟩
    all_goals (simp only [plE, nrE, Bool.and_eq_true] at z)
    · exact p.2.1 z.1
    · exact p.2.2 z.1
    · exact q.2.1 z.2
    · exact q.2.2 z.2
  · refine SimR.bind (h.st θ S1 S2 env1 env2 R E) fun k k' S1' S2' hk R' => ?_
    subst hk
    exact SimR.ite (fun _ => SimR.ok R' rfl) fun _ => h'.st θ S1' S2' env1 env2 R' E
theorem s2_not (h : Both T1 T2 a) : Both T1 T2 (.not a) := by
  refine ⟨fun θ S1 S2 env1 env2 R E => ?_, fun θ S1 S2 env1 env2 R E => ?_⟩
  · refine SimR.bind (h.se θ S1 S2 env1 env2 R E) fun x1 x2 S1' S2' p R' => ?_
    refine SimR.bind (tru_sim R' p.1) fun k k' S1'' S2'' hk R'' => ?_
    subst hk
    exact okV R'' (bel_bl 0 _)
  · refine SimR.bind (h.st θ S1 S2 env1 env2 R E) fun k k' S1' S2' hk R' => ?_
    subst hk
    exact SimR.ok R' rfl
theorem s2_ite (hc : Both T1 T2 c) (h : SE2 T1 T2 a) (h' : SE2 T1 T2 b) : SE2 T1 T2 (.ite c a b) := fun θ S1 S2 env1 env2 R E => by
  refine SimR.bind (hc.st θ S1 S2 env1 env2 R E) fun k k' S1' S2' hk R' => ?_
  subst hk
  refine SimR.ite (fun _ => (h θ S1' S2' env1 env2 R' E).imp fun a b q => ⟨q.1, fun z => ?_, fun z => ?_⟩) fun _ => (h' θ S1' S2' env1 env2 R' E).imp fun a b q => ⟨q.1, fun z => ?_, fun z => ?_⟩
  all_goals (simp only [plE, nrE, Bool.and_eq_true] at z)
  · exact q.2.1 z.1
  · exact q.2.2 z.1
  · exact q.2.1 z.2
  · exact q.2.2 z.2
theorem s2_call (F : SimF T1 T2) (f : Str) (h : SA2 T1 T2 es) : SE2 T1 T2 (.call f es) := fun θ S1 S2 env1 env2 R E => by
  have k := h θ S1 S2 env1 env2 R E
  simp only [evE_call]
  cases q : evA T2 es env2 S2 with
  | bad => trivial
  | exc x S2' =>
    rw [q] at k
    obtain ⟨S1', e1, r⟩ := k
    rw [e1]
    exact ⟨S1', rfl, r⟩
  | ok xs2 S2' =>
    rw [q] at k
    obtain ⟨xs1, S1', θ', e1, v, R', e⟩ := k
    rw [e1]
    simp only [bind_ok]
    exact (SimT.cut R e (F f xs1 xs2 S1' S2' θ' R' v)).imp fun a b p => ⟨p.1, (fun z => by cases z), fun _ => p.2⟩
theorem s2_call0 (F : SimF T1 T2) (f : Str) : SE2 T1 T2 (.call0 f) := fun θ S1 S2 env1 env2 R E => by
  simp only [evE_call0]
  have k := F f [] [] S1 S2 θ R .nil
  have k' : SimT θ S1 S2 (T1 f [] S1).nox (T2 f [] S2).nox := by
    cases q : T2 f [] S2 with
    | bad => trivial
    | exc x S => trivial
    | ok b S => rw [q] at k; obtain ⟨a, S1', e, r⟩ := k; rw [e]; exact ⟨a, S1', rfl, r⟩
  exact (SimT.cut R (Ext2.refl R) k').imp fun a b p => ⟨p.1, (fun z => by cases z), fun _ => p.2⟩
theorem RRels.nm {θ : Th} {S1 S2 : Sto} (R : Rel θ S1 S2) {r1 r2 : List Rv} (h : RRels θ r1 r2) : r1.map (Fe.nm S1) = r2.map (Fe.nm S2) ∧ ∀ r ∈ r2.map (Fe.nm S2), FlR r := by
  induction h with
  | nil => exact ⟨rfl, fun r h => by cases h⟩
  | cons h _ ih =>
    have n := h.nm R
    refine ⟨by simp only [List.map_cons, n.1, ih.1], fun r hr => ?_⟩
    simp only [List.map_cons, List.mem_cons] at hr
    rcases hr with rfl | hr
    · exact n.2
    · exact ih.2 r hr
theorem maxL_v {b : Bool} {xs : List Val} {r : Rv} (e : maxL b xs = some r) : ∃ x, r = .v x := by
  unfold maxL at e
  split at e
  · cases q : intsOf _ with
    | none => rw [q] at e; cases e
    | some js => rw [q] at e; cases e; exact ⟨_, rfl⟩
  · cases e
theorem blt_pl {f : Bf} (h1 : f ≠ .list) (h2 : f ≠ .sorted) {rs : List Rv} {r : Rv} (e : bltR [] f rs = some r) : ∃ x, r = .v x := by
  match rs, e with
  | [], e => cases e
  | [z], e =>
    have e' : blt1 [] f z = some r := e
    unfold blt1 at e'
    split at e' <;> first | exact absurd rfl h1 | exact absurd rfl h2 | (cases e'; done) | (cases e'; exact ⟨_, rfl⟩) | (split at e' <;> first | (cases e'; done) | (cases e'; exact ⟨_, rfl⟩) | (split at e' <;> first | (cases e'; done) | (cases e'; exact ⟨_, rfl⟩))) | skip
    · cases q : seqOf [] z with
      | none => rw [q] at e'; cases e'
      | some xs => rw [q] at e'; cases e'; exact ⟨_, rfl⟩
    · cases q : lstOf [] z with
      | none => rw [q] at e'; cases e'
      | some xs => rw [q] at e'; exact maxL_v e'
    · cases q : lstOf [] z with
      | none => rw [q] at e'; cases e'
      | some xs => rw [q] at e'; exact maxL_v e'
    · cases q : lstOf [] z with
      | none => rw [q] at e'; cases e'
      | some xs =>
        rw [q] at e'
        simp only [Option.bind_some] at e'
        cases q2 : intsOf xs with
        | none => rw [q2] at e'; cases e'
        | some ys => rw [q2] at e'; cases e'; exact ⟨_, rfl⟩
    · cases q : lstOf [] z with
      | none => rw [q] at e'; cases e'
      | some xs =>
        rw [q] at e'
        simp only [Option.bind_some] at e'
        cases q2 : blsOf xs with
        | none => rw [q2] at e'; cases e'
        | some ys => rw [q2] at e'; cases e'; exact ⟨_, rfl⟩
    · cases q : lstOf [] z with
      | none => rw [q] at e'; cases e'
      | some xs =>
        rw [q] at e'
        simp only [Option.bind_some] at e'
        cases q2 : blsOf xs with
        | none => rw [q2] at e'; cases e'
        | some ys => rw [q2] at e'; cases e'; exact ⟨_, rfl⟩
    · cases q : seqOf [] z with
      | none => rw [q] at e'; cases e'
      | some xs => rw [q] at e'; cases e'; exact ⟨_, rfl⟩
  | [x, y], e =>
    unfold bltR at e
    split at e
    · rename_i hh; cases hh
    · split at e <;> cases e <;> exact ⟨_, rfl⟩
    · cases e
  | a :: b :: c :: d, e => unfold bltR at e; simp at e
theorem s2_blt (f : Bf) (h : SR2 T1 T2 es) : SE2 T1 T2 (.blt f es) := fun θ S1 S2 env1 env2 R E => by
  refine SimR.bind (h θ S1 S2 env1 env2 R E) fun r1 r2 S1' S2' p R' => ?_
  obtain ⟨n, fl⟩ := p.nm R'
  refine opS R' (by rw [← bltR_nm S1' f r1, ← bltR_nm S2' f r2, n]) (by rw [← bltR_nm]; exact bltR_fl fl) fun hp r hr => ?_
  rw [← bltR_nm] at hr
  exact blt_pl (by intro z; subst z; cases hp) (by intro z; subst z; cases hp) hr
theorem s2_isi (t : Ty) (h : SE2 T1 T2 a) : SE2 T1 T2 (.isi a t) := fun θ S1 S2 env1 env2 R E => by
  refine SimR.bind (h θ S1 S2 env1 env2 R E) fun r1 r2 S1' S2' p R' => ?_
  obtain ⟨n, f⟩ := p.1.nm R'
  exact opB R' (by rw [← isiR_nm S1' r1 t, ← isiR_nm S2' r2 t, n])
theorem s2_isiT (t : List Ty) (h : SE2 T1 T2 a) : SE2 T1 T2 (.isiT a t) := fun θ S1 S2 env1 env2 R E => by
  refine SimR.bind (h θ S1 S2 env1 env2 R E) fun r1 r2 S1' S2' p R' => ?_
  obtain ⟨n, f⟩ := p.1.nm R'
  exact opB R' (by rw [← isiTR_nm S1' r1 t, ← isiTR_nm S2' r2 t, n])
theorem s2_fz (h : SE2 T1 T2 a) : SE2 T1 T2 (.fz a) := fun θ S1 S2 env1 env2 R E => by
  refine SimR.bind (h θ S1 S2 env1 env2 R E) fun r1 r2 S1' S2' p R' => ?_
  cases p.1 with
  | v h => cases h with
    | ref h => trivial
    | flat h => rename_i x; cases x with
      | ref l => trivial
      | _ => exact okV R' h
  | t h => rename_i o; cases o with
    | lst xs => exact okV R' (by rw [bel_fls]; exact h)
    | _ => trivial
theorem s2_met (m : Mf) (h : SE2 T1 T2 a) (h' : SP2 T1 T2 es) : SE2 T1 T2 (.met m a es) := fun θ S1 S2 env1 env2 R E => by
  simp only [evE_met]
  refine SimR.bind (h θ S1 S2 env1 env2 R E) fun r1 r2 S1' S2' p R' => ?_
  cases p.1 with
  | t h => trivial
  | v h => cases h with
    | flat h => rename_i x; cases x with
      | ref l => rw [bel_ref0] at h; cases h
      | _ => trivial
    | ref h =>
      rename_i l q
      obtain ⟨o, h1, h2⟩ := R'.get _ _ h
      simp only [h1, h2]
      cases o with
      | dic _ => trivial
      | ins _ _ => trivial
      | lst zs =>
        refine SimR.bind (h' θ S1' S2' env1 env2 R' E) fun xs1 xs2 S1'' S2'' p' R'' => ?_
        obtain ⟨rfl, hb⟩ := p'
        obtain ⟨o', g1, g2⟩ := R''.get _ _ h
        rw [metR_eq, metR_eq, g1, g2]
        cases o' with
        | dic _ => trivial
        | ins _ _ => trivial
        | lst ys =>
          cases k : metL m ys xs1 with
          | none => simp only [k]; trivial
          | some pr =>
            obtain ⟨⟨y, e1, hy⟩, h2⟩ := metL_fl (belS_mem R''.f2 (List.mem_of_getElem? g1)) hb k
            simp only [k, Option.map_some, of_some, bind_ok, e1]
            exact ⟨_, _, rfl, ⟨.v (.flat hy), fun _ => ⟨y, rfl, hy⟩, fun _ l z => by cases z; rw [bel_ref0] at hy; cases hy⟩, R''.set h h2, by simp, by simp, Out.set h _⟩
theorem s2_ext (h : SE2 T1 T2 a) (h' : SE2 T1 T2 b) : SE2 T1 T2 (.ext a b) := fun θ S1 S2 env1 env2 R E => by
  simp only [evE_ext]
  refine SimR.bind (h θ S1 S2 env1 env2 R E) fun r1 r2 S1' S2' p R' => ?_
  cases p.1 with
  | t h => trivial
  | v h => cases h with
    | flat h => rename_i x; cases x with
      | ref l => rw [bel_ref0] at h; cases h
      | _ => trivial
    | ref h =>
      rename_i l q
      obtain ⟨o, h1, h2⟩ := R'.get _ _ h
      simp only [h1, h2]
      cases o with
      | dic _ => trivial
      | ins _ _ => trivial
      | lst zs =>
        refine SimR.bind (h' θ S1' S2' env1 env2 R' E) fun y1 y2 S1'' S2'' p' R'' => ?_
        obtain ⟨n, f⟩ := p'.1.nm R''
        obtain ⟨o', g1, g2⟩ := R''.get _ _ h
        have e : lstW S1'' y1 = lstW S2'' y2 := by rw [← lstW_nm S1'' y1, ← lstW_nm S2'' y2, n]
        simp only [extR, g1, g2, e]
        cases o' with
        | dic _ => trivial
        | ins _ _ => trivial
        | lst ys =>
          cases k : lstW S2'' y2 with
          | none => trivial
          | some ws =>
            have hw : Val.belL 0 ws = true := by rw [← lstW_nm] at k; exact lstW_fl f _ k
            simp only []
            split
            · exact ⟨_, _, rfl, ⟨.v (.flat (bel_non 0)), fun _ => ⟨_, rfl, bel_non 0⟩, fun _ l z => nomatch z⟩, R''.set h (belL_app (belS_mem R''.f2 (List.mem_of_getElem? g1)) hw), by simp, by simp, Out.set h _⟩
            · trivial
theorem s2_ix (h : SE2 T1 T2 a) (h' : SE2 T1 T2 b) : SE2 T1 T2 (.ix a b) := fun θ S1 S2 env1 env2 R E => by
  simp only [evE_ix]
  refine SimR.bind (h θ S1 S2 env1 env2 R E) fun x1 x2 S1' S2' p R' => ?_
  refine SimR.bind (h' θ S1' S2' env1 env2 R' E) fun y1 y2 S1'' S2'' p' R'' => ?_
  obtain ⟨n, f⟩ := p.1.nm R''
  cases p'.1 with
  | t h => trivial
  | v h => cases h with
    | ref h => trivial
    | flat h => rename_i y; cases y with
      | int i => exact opV R'' (by rw [← ixR_nm S1'' x1 i, ← ixR_nm S2'' x2 i, n]) (by rw [← ixR_nm]; exact ixR_fl f i)
      | str s =>
        have e : dicW S1'' x1 = dicW S2'' x2 := by rw [← dicW_nm S1'' x1, ← dicW_nm S2'' x2, n]
        refine opV R'' (by rw [e]) fun z hz => ?_
        cases k : dicW S2'' x2 with
        | none => rw [k] at hz; cases hz
        | some kvs =>
          rw [k] at hz
          rw [← dicW_nm] at k
          exact dval_fl (dicW_fl f k) z hz
      | _ => trivial
theorem s2_sl {lo hi : Eo} (h : SE2 T1 T2 a) (h1 : SO2 T1 T2 lo) (h2 : SO2 T1 T2 hi) : SE2 T1 T2 (.sl a lo hi) := fun θ S1 S2 env1 env2 R E => by
  refine SimR.bind (h θ S1 S2 env1 env2 R E) fun x1 x2 S1' S2' p R' => ?_
  refine SimR.bind (h1 θ S1' S2' env1 env2 R' E) fun l1 l2 S3 S4 q R3 => ?_
  refine SimR.bind (h2 θ S3 S4 env1 env2 R3 E) fun k1 k2 S5 S6 q2 R5 => ?_
  subst q q2
  obtain ⟨n, f⟩ := p.1.nm R5
  exact opS R5 (by rw [← slR_nm S5 x1, ← slR_nm S6 x2, n]) (by rw [← slR_nm]; exact slR_fl f _ _) fun z => by cases z
theorem s2_rev (h : SE2 T1 T2 a) : SE2 T1 T2 (.rev a) := fun θ S1 S2 env1 env2 R E => by
  refine SimR.bind (h θ S1 S2 env1 env2 R E) fun x1 x2 S1' S2' p R' => ?_
  obtain ⟨n, f⟩ := p.1.nm R'
  exact opS R' (by rw [← revR_nm S1' x1, ← revR_nm S2' x2, n]) (by rw [← revR_nm]; exact revR_fl f) fun z => by cases z
theorem s2_rep (h : SE2 T1 T2 a) (h' : SE2 T1 T2 b) : SE2 T1 T2 (.rep a b) := fun θ S1 S2 env1 env2 R E => by
  refine SimR.bind (h θ S1 S2 env1 env2 R E) fun x1 x2 S1' S2' p R' => ?_
  refine SimR.bind (h' θ S1' S2' env1 env2 R' E) fun y1 y2 S1'' S2'' p' R'' => ?_
  obtain ⟨n, f⟩ := p.1.nm R''
  obtain ⟨n', f'⟩ := p'.1.nm R''
  exact opS R'' (by rw [← repR_nm S1'' x1 y1, ← repR_nm S2'' x2 y2, n, n']) (by rw [← repR_nm]; exact repR_fl f) fun z => by cases z
theorem guardL_sim {α β : Type} {P : α → β → Prop} {θ : Th} {S1 S2 : Sto} (R : Rel θ S1 S2) {l1 l2 : List (Nat × List Val)} (L : LRel θ l1 l2) {r1 : Res α} {r2 : Res β} (h : SimR P θ S1 S2 r1 r2) : SimR P θ S1 S2 (guardL l1 S1 r1) (guardL l2 S2 r2) := by
  unfold guardL
  by_cases k : liveOk S2 l2
  · rw [if_pos k, if_pos (L.ok R k)]
    exact h
  · rw [if_neg k]
    trivial
theorem compL_sim {c : Eo} {e : E} (hc : SC2 T1 T2 c) (he : SE2 T1 T2 e) (hp : plE e = true) (tg : Tg) {θ : Th} {env1 env2 : Env} (E : ERel θ env1 env2) {l1 l2 : List (Nat × List Val)} (L : LRel θ l1 l2) : ∀ (xs acc : List Val) (S1 S2 : Sto), Val.belL 0 xs = true → Val.belL 0 acc = true → Rel θ S1 S2 →
    SimR (fun r1 r2 => ∃ zs, r1 = .t (.lst zs) ∧ r2 = .t (.lst zs) ∧ Val.belL 0 zs = true) θ S1 S2 (compL (evC T1 c) (evE T1 e) tg env1 l1 xs acc S1) (compL (evC T2 c) (evE T2 e) tg env2 l2 xs acc S2)
  | [], acc, S1, S2, hx, ha, R => by
    simp only [compL]
    exact guardL_sim R L (SimR.ok R ⟨acc, rfl, rfl, ha⟩)
  | x :: xs, acc, S1, S2, hx, ha, R => by
    simp only [Val.belL, Bool.and_eq_true] at hx
    simp only [compL]
    refine guardL_sim R L ?_
    cases q : asgT tg x env2 with
    | none => trivial
    | some e2 =>
      obtain ⟨e1, h1, E1⟩ := asgT_sim tg x env1 env2 e2 E hx.1 q
      rw [h1]
      simp only []
      refine SimR.bind (hc θ S1 S2 e1 e2 R E1) fun k k' S1' S2' hk R' => ?_
      subst hk
      refine SimR.ite (fun _ => ?_) fun _ => compL_sim hc he hp tg E L xs acc S1' S2' hx.2 ha R'
      refine SimR.bind (he θ S1' S2' e1 e2 R' E1) fun r1 r2 S3 S4 p R3 => ?_
      obtain ⟨z, rfl, hz⟩ := p.2.1 hp
      have : r1 = .v z := by
        cases p.1 with
        | v h => cases h with
          | ref h => rw [bel_ref0] at hz; cases hz
          | flat h => rfl
      subst this
      simp only [lay_v]
      exact compL_sim hc he hp tg E L xs (acc ++ [z]) S3 S4 hx.2 (belL_app ha (by simp only [Val.belL, Bool.and_true]; exact hz)) R3
theorem s2_comp {own : List Nat} {tg : Tg} {it : It} {c : Eo} {e : E} (hi : SI2 T1 T2 it) (hc : SC2 T1 T2 c) (he : SE2 T1 T2 e) (hp : plE e = true) : SE2 T1 T2 (.comp own tg it c e) := fun θ S1 S2 env1 env2 R E => by
  simp only [evE_comp]
  refine SimR.bind (hi θ S1 S2 env1 env2 R E) fun s1 s2 S1' S2' p R' => ?_
  rw [p.items]
  split
  · refine SimR.imp (SimR.nox (compL_sim hc he hp tg (E.wipe own) p.live s2.items [] S1' S2' p.flat rfl R')) fun r1 r2 q => ?_
    obtain ⟨zs, rfl, rfl, hz⟩ := q
    exact ⟨.t hz, (fun z => by cases z), fun _ l z => nomatch z⟩
  · trivial
end
theorem own_of {a : E} (h : SE2 T1 T2 a) (hv : (isV a || nrE a) = true) {θ : Th} {S1 S2 : Sto} {env1 env2 : Env} (R : Rel θ S1 S2) (E : ERel θ env1 env2) : SimR (fun r1 r2 => RRel θ r1 r2 ∧ ∀ l, r2 = .v (.ref l) → l ∈ vrE a) θ S1 S2 (evE T1 a env1 S1) (evE T2 a env2 S2) := by
  by_cases hn : nrE a = true
  · exact (h θ S1 S2 env1 env2 R E).imp fun r1 r2 p => ⟨p.1, fun l e => absurd e (p.2.2 hn l)⟩
  · cases a with
    | var i =>
      simp only [evE_var]
      cases q : env2[i]? with
      | none => trivial
      | some o => cases o with
        | none => trivial
        | some x =>
          obtain ⟨y, h1, h2⟩ := E.at' i x q
          rw [h1]
          refine SimR.ok R ⟨.v h2, fun l e => ?_⟩
          cases e
          rw [E.own i l q]
          exact List.mem_singleton.mpr rfl
    | _ => simp_all [isV]
theorem src_step {θ : Th} {S1 S2 : Sto} {vs : List Nat} (R : Rel θ S1 S2) {r1 r2 : Rv} (p : RRel θ r1 r2) (ho : ∀ l, r2 = .v (.ref l) → l ∈ vs) : SimR (SRel θ vs) θ S1 S2 (.of (srcOf S1 r1) S1) (.of (srcOf S2 r2) S2) :=
  SimR.of R fun s2 e => by
    obtain ⟨s1, e1, h1, h2, h3, h4⟩ := src_sim R p e
    exact ⟨s1, e1, h1, h2, h3, fun p hp => ho _ (h4 p hp)⟩
theorem src_stepL {θ : Th} {S1 S2 : Sto} {vs : List Nat} (R : Rel θ S1 S2) {r1 r2 : Rv} (p : RRel θ r1 r2) (ho : ∀ l, r2 = .v (.ref l) → l ∈ vs) : SimR (SRel θ vs) θ S1 S2 (.of (if isLst S1 r1 = true then srcOf S1 r1 else none) S1) (.of (if isLst S2 r2 = true then srcOf S2 r2 else none) S2) := by
  have e : isLst S1 r1 = isLst S2 r2 := by rw [← isLst_nm S1 r1, ← isLst_nm S2 r2, (p.nm R).1]
  rw [e]
  split
  · exact src_step R p ho
  · trivial
theorem src_stepE {θ : Th} {S1 S2 : Sto} {vs : List Nat} (R : Rel θ S1 S2) {r1 r2 : Rv} (p : RRel θ r1 r2) (ho : ∀ l, r2 = .v (.ref l) → l ∈ vs) : SimR (SRel θ vs) θ S1 S2 (.of (if (isLst S1 r1 || isTup r1) = true then srcOf S1 r1 else none) S1) (.of (if (isLst S2 r2 || isTup r2) = true then srcOf S2 r2 else none) S2) := by
  have e : isLst S1 r1 = isLst S2 r2 := by rw [← isLst_nm S1 r1, ← isLst_nm S2 r2, (p.nm R).1]
  have e2 : isTup r1 = isTup r2 := by rw [← isTup_nm S1 r1, ← isTup_nm S2 r2, (p.nm R).1]
  rw [e, e2]
  split
  · exact src_step R p ho
  · trivial
theorem enum_fl : ∀ (xs : List Val) (i : Nat), Val.belL 0 xs = true → Val.belL 0 (enumFrom i xs) = true
  | [], i, h => rfl
  | x :: xs, i, h => by
    simp only [Val.belL, Bool.and_eq_true] at h
    simp only [enumFrom, Val.belL, Bool.and_eq_true, bel_tup, bel_int, h.1, true_and, and_true]
    exact enum_fl xs (i + 1) h.2
theorem zip_fl : ∀ (xs ys : List Val), Val.belL 0 xs = true → Val.belL 0 ys = true → Val.belL 0 (zipV xs ys) = true
  | [], ys, h, h' => by cases ys <;> rfl
  | x :: xs, [], h, h' => rfl
  | x :: xs, y :: ys, h, h' => by
    simp only [Val.belL, Bool.and_eq_true] at h h'
    simp only [zipV, Val.belL, Bool.and_eq_true, bel_tup, h.1, h'.1, true_and, and_true]
    exact zip_fl xs ys h.2 h'.2
theorem rng_fl (lo : Int) (n : Nat) : Val.belL 0 (rngL lo n) = true := belL_of fun x hx => by
  obtain ⟨i, _, rfl⟩ := List.mem_map.mp hx
  exact bel_int 0 _
theorem range_sim {θ : Th} {S1 S2 : Sto} {vs : List Nat} (R : Rel θ S1 S2) {l1 l2 : List Rv} (h : RRels θ l1 l2) : SimR (fun s1 s2 => SRel θ vs s1 s2 ∧ s1 = s2) θ S1 S2 (.of (rangeR l1) S1) (.of (rangeR l2) S2) := by
  have key : ∀ (x : Int) (n : Nat), SRel θ vs ⟨rngL x n, []⟩ ⟨rngL x n, []⟩ := fun x n => ⟨rfl, rng_fl x n, .nil, fun p hp => by cases hp⟩
  cases h with
  | nil => trivial
  | cons h t => cases h with
    | t h => cases t <;> trivial
    | v h => cases h with
      | ref h => cases t <;> trivial
      | flat h => rename_i x; cases x with
        | int i => cases t with
          | nil =>
            simp only [rangeR]
            split
            · exact SimR.ok R ⟨key _ _, rfl⟩
            · trivial
          | cons h2 t2 => cases h2 with
            | t h2 => cases t2 <;> trivial
            | v h2 => cases h2 with
              | ref h2 => cases t2 <;> trivial
              | flat h2 => rename_i y; cases y with
                | int j => cases t2 with
                  | nil =>
                    simp only [rangeR]
                    split
                    · exact SimR.ok R ⟨key _ _, rfl⟩
                    · trivial
                  | cons _ _ => trivial
                | _ => cases t2 <;> trivial
        | _ => cases t <;> trivial
mutual
theorem simE (F : SimF T1 T2) : ∀ e : E, okE e = true → Both T1 T2 e
  | .var i, _ => .dup (s2_var i) rfl rfl
  | .cst x, h => .dup (s2_cst x h) rfl rfl
  | .glb n x, h => .dup (s2_glb n x h) rfl rfl
  | .tup es, h => by
    simp only [okE, Bool.and_eq_true] at h
    exact .dup (s2_tup (simP F es h.1 h.2)) rfl rfl
  | .lst es, h => by
    simp only [okE, Bool.and_eq_true] at h
    exact .dup (s2_lst (simP F es h.1 h.2)) rfl rfl
  | .dic0, _ => .dup s2_dic0 rfl rfl
  | .join m a, h => .dup (s2_join m (simE F a h).se) rfl rfl
  | .maxd a d, h => .dup (s2_maxd d (simE F a h).se) rfl rfl
  | .bin o a b, h => by
    simp only [okE, Bool.and_eq_true] at h
    exact .dup (s2_bin o (simE F a h.1).se (simE F b h.2).se) rfl rfl
  | .neg a, h => .dup (s2_neg (simE F a h).se) rfl rfl
  | .cmp o a b, h => by
    simp only [okE, Bool.and_eq_true] at h
    exact .dup (s2_cmp o (simE F a h.1).se (simE F b h.2).se) rfl rfl
  | .and a b, h => by
    simp only [okE, Bool.and_eq_true] at h
    exact s2_and (simE F a h.1) (simE F b h.2)
  | .or a b, h => by
    simp only [okE, Bool.and_eq_true] at h
    exact s2_or (simE F a h.1) (simE F b h.2)
  | .not a, h => s2_not (simE F a h)
  | .ite c a b, h => by
    simp only [okE, Bool.and_eq_true] at h
    exact .dup (s2_ite (simE F c h.1.1) (simE F a h.1.2).se (simE F b h.2).se) rfl rfl
  | .call f es, h => .dup (s2_call F f (simA F es h)) rfl rfl
  | .blt f es, h => .dup (s2_blt f (simRs F es h)) rfl rfl
  | .isi a t, h => .dup (s2_isi t (simE F a h).se) rfl rfl
  | .isiT a t, h => .dup (s2_isiT t (simE F a h).se) rfl rfl
  | .fz a, h => .dup (s2_fz (simE F a h).se) rfl rfl
  | .call0 f, _ => .dup (s2_call0 F f) rfl rfl
  | .met m o es, h => by
    simp only [okE, Bool.and_eq_true] at h
    exact .dup (s2_met m (simE F o h.1.1).se (simP F es h.1.2 h.2)) rfl rfl
  | .ext o a, h => by
    simp only [okE, Bool.and_eq_true] at h
    exact .dup (s2_ext (simE F o h.1).se (simE F a h.2).se) rfl rfl
  | .ix a i, h => by
    simp only [okE, Bool.and_eq_true] at h
    exact .dup (s2_ix (simE F a h.1).se (simE F i h.2).se) rfl rfl
  | .sl a lo hi, h => by
    simp only [okE, Bool.and_eq_true] at h
    exact .dup (s2_sl (simE F a h.1.1).se (simO F lo h.1.2) (simO F hi h.2)) rfl rfl
  | .rev a, h => .dup (s2_rev (simE F a h).se) rfl rfl
  | .rep a b, h => by
    simp only [okE, Bool.and_eq_true] at h
    exact .dup (s2_rep (simE F a h.1).se (simE F b h.2).se) rfl rfl
  | .comp own tg it c e, h => by
    simp only [okE, Bool.and_eq_true] at h
    exact .dup (s2_comp (simI F it h.1.1.1) (simC F c h.1.1.2) (simE F e h.1.2).se h.2) rfl rfl
theorem simA (F : SimF T1 T2) : ∀ es : Es, okA es = true → SA2 T1 T2 es
  | .nil, _ => fun θ S1 S2 env1 env2 R E => ⟨[], S1, θ, rfl, .nil, R, Ext2.refl R⟩
  | .cons e r, h => by
    simp only [okA, Bool.and_eq_true] at h
    have he := (simE F e h.1).se
    have hr := simA F r h.2
    intro θ S1 S2 env1 env2 R E
    have k := he θ S1 S2 env1 env2 R E
    simp only [evA_cons]
    cases q : evE T2 e env2 S2 with
    | bad => trivial
    | exc x S2' =>
      rw [q] at k
      obtain ⟨S1', e1, r⟩ := k
      rw [e1]
      exact ⟨S1', rfl, r⟩
    | ok r2 S2' =>
      rw [q] at k
      obtain ⟨r1, S1', e1, p, R', l1, l2, o⟩ := k
      rw [e1]
      simp only [bind_ok]
      obtain ⟨θ', v, R'', x⟩ := R'.lay p.1
      have x0 : Ext2 θ S1 S2 θ' (lay r1 S1').2 (lay r2 S2').2 := by
        have a1 := x.l1
        have a2 := x.l2
        refine ⟨by omega, by omega, fun l hl => x.same l (by omega), fun l q h1 h2 => by have := x.new l q (by omega) h2; omega, ?_⟩
        exact o.trans (by omega) x.out
      have k2 := hr θ' _ _ env1 env2 R'' (E.mono (x0.mono R))
      cases q2 : evA T2 r env2 (lay r2 S2').2 with
      | bad => trivial
      | exc x S2' =>
        rw [q2] at k2
        obtain ⟨S3, e3, R3, m1, m2, o3⟩ := k2
        rw [e3]
        have a1 := x0.l1
        have a2 := x0.l2
        refine ⟨S3, rfl, R3.sub (x0.mono R), by omega, by omega, fun q hq n => ?_⟩
        rw [o3 q (by omega) fun l z => ?_, x0.out q hq n]
        by_cases hh : l < S2.length
        · exact n l (by rw [← x0.same l hh]; exact z)
        · have := x0.new l q (by omega) z
          omega
      | ok ys S2' =>
        rw [q2] at k2
        obtain ⟨xs1, S3, θ3, e3, v3, R3, x3⟩ := k2
        rw [e3]
        exact ⟨_, S3, θ3, rfl, .cons (v.mono (x3.mono R'')) v3, R3, Ext2.trans R x0 x3⟩
theorem simP (F : SimF T1 T2) : ∀ es : Es, okA es = true → plA es = true → SP2 T1 T2 es
  | .nil, _, _ => fun θ S1 S2 env1 env2 R E => SimR.ok R ⟨rfl, rfl⟩
  | .cons e r, h, hp => by
    simp only [okA, Bool.and_eq_true] at h
    simp only [plA, Bool.and_eq_true] at hp
    have he := (simE F e h.1).se
    have hr := simP F r h.2 hp.2
    intro θ S1 S2 env1 env2 R E
    refine SimR.bind (he θ S1 S2 env1 env2 R E) fun r1 r2 S1' S2' p R' => ?_
    obtain ⟨z, rfl, hz⟩ := p.2.1 hp.1
    have : r1 = .v z := by
      cases p.1 with
      | v h => cases h with
        | ref h => rw [bel_ref0] at hz; cases hz
        | flat h => rfl
    subst this
    simp only [lay_v]
    refine SimR.bind (hr θ S1' S2' env1 env2 R' E) fun xs1 xs2 S3 S4 p3 R3 => ?_
    obtain ⟨rfl, hb⟩ := p3
    exact SimR.ok R3 ⟨rfl, by simp only [Val.belL, Bool.and_eq_true]; exact ⟨hz, hb⟩⟩
theorem simRs (F : SimF T1 T2) : ∀ es : Es, okA es = true → SR2 T1 T2 es
  | .nil, _ => fun θ S1 S2 env1 env2 R E => SimR.ok R .nil
  | .cons e r, h => by
    simp only [okA, Bool.and_eq_true] at h
    have he := (simE F e h.1).se
    have hr := simRs F r h.2
    intro θ S1 S2 env1 env2 R E
    refine SimR.bind (he θ S1 S2 env1 env2 R E) fun r1 r2 S1' S2' p R' => ?_
    refine SimR.bind (hr θ S1' S2' env1 env2 R' E) fun xs1 xs2 S3 S4 p3 R3 => ?_
    exact SimR.ok R3 (.cons p.1 p3)
theorem simO (F : SimF T1 T2) : ∀ e : Eo, okO e = true → SO2 T1 T2 e
  | .none, _ => fun θ S1 S2 env1 env2 R E => SimR.ok R rfl
  | .some e, h => fun θ S1 S2 env1 env2 R E => by
    simp only [evO_some]
    refine SimR.bind ((simE F e h).se θ S1 S2 env1 env2 R E) fun r1 r2 S1' S2' p R' => ?_
    cases p.1 with
    | t h => trivial
    | v h => cases h with
      | ref h => trivial
      | flat h => rename_i y; cases y with
        | int i => exact SimR.ok R' rfl
        | _ => trivial
theorem simC (F : SimF T1 T2) : ∀ e : Eo, okO e = true → SC2 T1 T2 e
  | .none, _ => fun θ S1 S2 env1 env2 R E => SimR.ok R rfl
  | .some e, h => (simE F e h).st
theorem simI (F : SimF T1 T2) : ∀ it : It, okI it = true → SI2 T1 T2 it
  | .e a, h => by
    simp only [okI, Bool.and_eq_true] at h
    intro θ S1 S2 env1 env2 R E
    exact SimR.bind (own_of (simE F a h.1).se h.2 R E) fun r1 r2 S1' S2' p R' => src_step R' p.1 p.2
  | .rg1 a, h => fun θ S1 S2 env1 env2 R E => by
    refine SimR.bind ((simE F a h).se θ S1 S2 env1 env2 R E) fun r1 r2 S1' S2' p R' => ?_
    exact (range_sim R' (.cons p.1 .nil)).imp fun _ _ q => q.1
  | .rg2 a b, h => fun θ S1 S2 env1 env2 R E => by
    simp only [okI, Bool.and_eq_true] at h
    refine SimR.bind ((simE F a h.1).se θ S1 S2 env1 env2 R E) fun r1 r2 S1' S2' p R' => ?_
    refine SimR.bind ((simE F b h.2).se θ S1' S2' env1 env2 R' E) fun q1 q2 S3 S4 p3 R3 => ?_
    exact (range_sim R3 (.cons p.1 (.cons p3.1 .nil))).imp fun _ _ q => q.1
  | .enum a, h => by
    simp only [okI, Bool.and_eq_true] at h
    intro θ S1 S2 env1 env2 R E
    refine SimR.bind (own_of (simE F a h.1).se h.2 R E) fun r1 r2 S1' S2' p R' => ?_
    refine SimR.bind (src_stepE R' p.1 p.2) fun s1 s2 S3 S4 q R3 => ?_
    exact SimR.ok R3 ⟨by simp only [q.items], enum_fl _ _ q.flat, q.live, q.own⟩
  | .zip a b, h => by
    simp only [okI, Bool.and_eq_true] at h
    obtain ⟨⟨⟨ha, hb⟩, va⟩, vb⟩ := h
    intro θ S1 S2 env1 env2 R E
    refine SimR.bind (own_of (simE F a ha).se va R E) fun r1 r2 S1' S2' p R' => ?_
    refine SimR.bind (own_of (simE F b hb).se vb R' E) fun q1 q2 S3 S4 p3 R3 => ?_
    have e1 : isLst S3 r1 = isLst S4 r2 := by rw [← isLst_nm S3 r1, ← isLst_nm S4 r2, (p.1.nm R3).1]
    have e2 : isLst S3 q1 = isLst S4 q2 := by rw [← isLst_nm S3 q1, ← isLst_nm S4 q2, (p3.1.nm R3).1]
    have e3 : isTup r1 = isTup r2 := by rw [← isTup_nm S3 r1, ← isTup_nm S4 r2, (p.1.nm R3).1]
    have e4 : isTup q1 = isTup q2 := by rw [← isTup_nm S3 q1, ← isTup_nm S4 q2, (p3.1.nm R3).1]
    rw [e1, e2, e3, e4]
    split
    · refine SimR.bind (src_step (vs := vrI (.zip a b)) R3 p.1 fun l e => List.mem_append_left _ (p.2 l e)) fun s1 s2 S5 S6 s R5 => ?_
      refine SimR.bind (src_step (vs := vrI (.zip a b)) R5 p3.1 fun l e => List.mem_append_right _ (p3.2 l e)) fun t1 t2 S7 S8 t R7 => ?_
      refine SimR.ok R7 ⟨by simp only [s.items, t.items], zip_fl _ _ s.flat t.flat, s.live.app t.live, fun p hp => ?_⟩
      rcases List.mem_append.mp hp with hp | hp
      · exact s.own p hp
      · exact t.own p hp
    · trivial
  | .rv a, h => by
    simp only [okI, Bool.and_eq_true] at h
    intro θ S1 S2 env1 env2 R E
    refine SimR.bind (own_of (simE F a h.1).se h.2 R E) fun r1 r2 S1' S2' p R' => ?_
    refine SimR.bind (src_stepL R' p.1 p.2) fun s1 s2 S3 S4 q R3 => ?_
    exact SimR.ok R3 ⟨by simp only [q.items], belL_rev q.flat, q.live, q.own⟩
  | .rvr a, h => fun θ S1 S2 env1 env2 R E => by
    refine SimR.bind ((simE F a h).se θ S1 S2 env1 env2 R E) fun r1 r2 S1' S2' p R' => ?_
    refine SimR.bind (range_sim (vs := []) R' (.cons p.1 .nil)) fun s1 s2 S3 S4 q R3 => ?_
    obtain ⟨q, rfl⟩ := q
    exact SimR.ok R3 ⟨rfl, belL_rev q.flat, .nil, fun p hp => by cases hp⟩
end
end Fe

/-! Fv4: the two interpreters side by side: statements, functions -/
namespace Fe
open PySem
variable {T1 T2 : Fns}
structure Nxt (np : Nat) (θ : Th) (S1 : Sto) (θ' : Th) (S1' : Sto) : Prop where
  le : S1.length ≤ S1'.length
  out : Out θ S1 S1'
  par : ∀ j, j < np → θ' j = θ j
  new : ∀ l q, θ' l = some q → θ l = some q ∨ S1.length ≤ q
theorem Nxt.refl {np : Nat} {θ : Th} {S1 : Sto} : Nxt np θ S1 θ S1 := ⟨Nat.le_refl _, Out.refl, fun _ _ => rfl, fun l q h => .inl h⟩
theorem Nxt.trans {np : Nat} {θ θ' θ2 : Th} {S1 S1' S1'' : Sto} (h : Nxt np θ S1 θ' S1') (h' : Nxt np θ' S1' θ2 S1'') : Nxt np θ S1 θ2 S1'' := by
  have a := h.le
  have b := h'.le
  refine ⟨by omega, fun q hq n => ?_, fun j hj => by rw [h'.par j hj, h.par j hj], fun l q hl => ?_⟩
  · rw [h'.out q (by omega) fun l z => ?_, h.out q hq n]
    rcases h.new l q z with z | z
    · exact n l z
    · omega
  · rcases h'.new l q hl with z | z
    · exact h.new l q z
    · exact .inr (by omega)
theorem Nxt.of {np : Nat} {θ : Th} {S1 S1' : Sto} (hl : S1.length ≤ S1'.length) (o : Out θ S1 S1') : Nxt np θ S1 θ S1' := ⟨hl, o, fun _ _ => rfl, fun l q h => .inl h⟩
inductive FRel (θ : Th) : Fl → Fl → Prop
  | nx : FRel θ .nx .nx
  | bk : FRel θ .bk .bk
  | ct : FRel θ .ct .ct
  | rt {r1 r2 : Rv} : RRel θ r1 r2 → FRel θ (.rt r1) (.rt r2)
def SimS (np : Nat) (kp : Nat → Prop) (θ : Th) (S1 S2 : Sto) (r1 r2 : SR) : Prop := match r2 with
  | .ok fl env2' S2' => ∃ θ' fl1 env1' S1', r1 = .ok fl1 env1' S1' ∧ FRel θ' fl1 fl ∧ ERel θ' env1' env2' ∧ Rel θ' S1' S2' ∧ S2'.length = S2.length ∧ Nxt np θ S1 θ' S1' ∧ ∀ l, kp l → θ' l = θ l
  | .exc x env2' S2' => ∃ θ' env1' S1', r1 = .exc x env1' S1' ∧ ERel θ' env1' env2' ∧ Rel θ' S1' S2' ∧ S2.length ≤ S2'.length ∧ Nxt np θ S1 θ' S1' ∧ (∀ l q, θ' l = some q → l < S2.length) ∧ ∀ l, kp l → θ' l = θ l
  | .bad => True
section
variable {np : Nat} {kp kp' : Nat → Prop} {θ θ' : Th} {S1 S2 S1' S2' : Sto} {env1 env2 : Env}
theorem SimS.step (h : Nxt np θ S1 θ' S1') (hl : S2'.length = S2.length) (hk : ∀ l, kp l → θ' l = θ l) {r1 r2 : SR} (k : SimS np kp θ' S1' S2' r1 r2) : SimS np kp θ S1 S2 r1 r2 := by
  cases r2 with
  | ok fl env S =>
    obtain ⟨θ2, fl1, e1, S3, e, f, E, R, l, x, y⟩ := k
    exact ⟨θ2, fl1, e1, S3, e, f, E, R, by omega, h.trans x, fun l hl => by rw [y l hl, hk l hl]⟩
  | exc x env S =>
    obtain ⟨θ2, e1, S3, e, E, R, l, x, d, y⟩ := k
    exact ⟨θ2, e1, S3, e, E, R, by omega, h.trans x, fun l q z => by have := d l q z; omega, fun l hl => by rw [y l hl, hk l hl]⟩
  | bad => trivial
theorem SimS.mono (hk : ∀ l, kp' l → kp l) {r1 r2 : SR} (k : SimS np kp θ S1 S2 r1 r2) : SimS np kp' θ S1 S2 r1 r2 := by
  cases r2 with
  | ok fl env S =>
    obtain ⟨θ2, fl1, e1, S3, e, f, E, R, l, x, y⟩ := k
    exact ⟨θ2, fl1, e1, S3, e, f, E, R, l, x, fun l hl => y l (hk l hl)⟩
  | exc x env S =>
    obtain ⟨θ2, e1, S3, e, E, R, l, x, d, y⟩ := k
    exact ⟨θ2, e1, S3, e, E, R, l, x, d, fun l hl => y l (hk l hl)⟩
  | bad => trivial
theorem SimS.ok (R : Rel θ S1 S2) (E : ERel θ env1 env2) {f1 f2 : Fl} (h : FRel θ f1 f2) : SimS np kp θ S1 S2 (.ok f1 env1 S1) (.ok f2 env2 S2) := ⟨θ, f1, env1, S1, rfl, h, E, R, rfl, Nxt.refl, fun _ _ => rfl⟩
/-- an expression within a statement -/
theorem SimS.st {α β : Type} {P : α → β → Prop} {r1 : Res α} {r2 : Res β} (R0 : Rel θ S1 S2) (h : SimR P θ S1 S2 r1 r2) (E : ERel θ env1 env2) {f : α → Sto → SR} {g : β → Sto → SR} (k : ∀ a b S1' S2', P a b → Rel θ S1' S2' → S2'.length = S2.length → SimS np kp θ S1' S2' (f a S1') (g b S2')) : SimS np kp θ S1 S2 (r1.st env1 f) (r2.st env2 g) := by
  cases r2 with
  | ok b S =>
    obtain ⟨a, S3, rfl, p, R, l1, l2, o⟩ := h
    exact SimS.step (Nxt.of (by omega) o) l2 (fun _ _ => rfl) (k a b S3 S p R l2)
  | exc x S =>
    obtain ⟨S3, rfl, R, l1, l2, o⟩ := h
    exact ⟨θ, env1, S3, rfl, E, R, l2, Nxt.of l1 o, fun l q z => (R0.dom z).1, fun _ _ => rfl⟩
  | bad => trivial
theorem SimS.bind {r1 r2 : SR} (h : SimS np kp θ S1 S2 r1 r2) {f g : Env → Sto → SR} (k : ∀ θ' env1 env2 S1' S2', ERel θ' env1 env2 → Rel θ' S1' S2' → S2'.length = S2.length → SimS np kp θ' S1' S2' (f env1 S1') (g env2 S2')) : SimS np kp θ S1 S2 (r1.bind f) (r2.bind g) := by
  cases r2 with
  | ok fl env S =>
    obtain ⟨θ2, fl1, e1, S3, rfl, fr, E, R, l, x, y⟩ := h
    cases fr with
    | nx => exact SimS.step x l y (k θ2 e1 env S3 S E R l)
    | bk => exact ⟨θ2, _, e1, S3, rfl, .bk, E, R, l, x, y⟩
    | ct => exact ⟨θ2, _, e1, S3, rfl, .ct, E, R, l, x, y⟩
    | rt hr => exact ⟨θ2, _, e1, S3, rfl, .rt hr, E, R, l, x, y⟩
  | exc x env S =>
    obtain ⟨θ2, e1, S3, rfl, r⟩ := h
    exact ⟨θ2, e1, S3, rfl, r⟩
  | bad => trivial
theorem SimS.ite {r1 q1 r2 q2 : SR} {k : Bool} (h1 : SimS np kp θ S1 S2 r1 r2) (h2 : SimS np kp θ S1 S2 q1 q2) : SimS np kp θ S1 S2 (if k = true then r1 else q1) (if k = true then r2 else q2) := by
  cases k with
  | true => exact h1
  | false => exact h2
end
def SB2 (T1 T2 : Fns) (np n : Nat) (c : Cs) : Prop := ∀ (θ : Th) (S1 S2 : Sto) (env1 env2 : Env), Rel θ S1 S2 → ERel θ env1 env2 → S2.length = n → SimS np (fun l => kpB l c = true) θ S1 S2 (evB T1 c env1 S1) (evB2 np T2 c env2 S2)
section
variable {np n : Nat} {a b c : E}
/-- a new object is laid into its slot -/
theorem set_new {θ : Th} {S1 S2 : Sto} {env1 env2 : Env} (R : Rel θ S1 S2) (E : ERel θ env1 env2) {i : Nat} (hi : np ≤ i) (hn : i < S2.length) {o : Ob} (ho : o.bel 0 = true) :
    SimS np (fun l => l ≠ i) θ S1 S2 (.ok .nx (env1.set i (some (.ref S1.length))) (S1 ++ [o])) (.ok .nx (env2.set i (some (.ref i))) (S2.set i o)) := by
  let θ' : Th := fun l => if l = i then some S1.length else θ l
  have hne : ∀ l, l ≠ i → θ' l = θ l := fun l h => if_neg h
  refine ⟨θ', .nx, _, _, rfl, .nx, ⟨by simp [E.len], fun j y h => ?_, fun j l h => ?_⟩, ⟨fun l m q h1 h2 => ?_, fun l q h1 => ?_, belS_app R.f1 ho, belS_set R.f2 ho⟩, by simp, ⟨by simp, fun q hq nn => by rw [List.getElem?_append_left hq], fun j hj => if_neg (by omega), fun l q h => ?_⟩, fun l h => hne l h⟩
  · by_cases e : i = j
    · subst e
      have hl : i < env2.length := by simpa using (List.getElem?_eq_some_iff.mp h).1
      rw [List.getElem?_set_self hl] at h
      cases h
      exact ⟨_, by rw [List.getElem?_set_self (by rw [E.len]; exact hl)], .ref (if_pos rfl)⟩
    · rw [List.getElem?_set_ne e] at h ⊢
      obtain ⟨y', h1, h2⟩ := E.at' j y h
      refine ⟨y', h1, ?_⟩
      cases h2 with
      | flat h2 => exact .flat h2
      | ref h2 =>
        refine .ref ?_
        rw [hne _ fun z => ?_]
        · exact h2
        · have := E.own j _ h
          omega
  · by_cases e : i = j
    · subst e
      have hl : i < env2.length := by simpa using (List.getElem?_eq_some_iff.mp h).1
      rw [List.getElem?_set_self hl] at h
      cases h
      rfl
    · rw [List.getElem?_set_ne e] at h
      exact E.own j l h
  · simp only [θ'] at h1 h2
    split at h1 <;> split at h2
    · omega
    · cases h1; have := (R.dom h2).2; omega
    · cases h2; have := (R.dom h1).2; omega
    · exact R.inj l m q h1 h2
  · simp only [θ'] at h1
    split at h1
    · rename_i e
      subst e
      cases h1
      exact ⟨o, by rw [List.getElem?_set_self hn], by simp⟩
    · rename_i e
      obtain ⟨o1, g1, g2⟩ := R.get l q h1
      exact ⟨o1, by rw [List.getElem?_set_ne (fun z => e z.symm)]; exact g1, by rw [List.getElem?_append_left (R.dom h1).2]; exact g2⟩
  · simp only [θ'] at h
    split at h
    · cases h; exact .inr (Nat.le_refl _)
    · exact .inl h
theorem ss_set {i : Nat} (h : SE2 T1 T2 a) (hi : i < n) : ∀ (θ : Th) (S1 S2 : Sto) (env1 env2 : Env), Rel θ S1 S2 → ERel θ env1 env2 → S2.length = n → SimS np (fun l => kpS l (.set i a) = true) θ S1 S2 (evS T1 (.set i a) env1 S1) (evS2 np T2 (.set i a) env2 S2) := by
  intro θ S1 S2 env1 env2 R E hl
  have e2 : evS2 np T2 (.set i a) env2 S2 = (evE T2 a env2 S2).st env2 fun r S => match r with
    | .t o => if np ≤ i then .ok .nx (env2.set i (some (.ref i))) (S.set i o) else .bad
    | .v x => match x.loc with
      | some _ => .bad
      | none => .ok .nx (env2.set i (some x)) S := by (simp only [evS2] <;> rfl)
  rw [e2, evS_set]
  refine SimS.st R (h θ S1 S2 env1 env2 R E) E fun r1 r2 S1' S2' p R' l' => ?_
  cases p.1 with
  | t ho =>
    rename_i o
    simp only [lay_t]
    split
    · rename_i hnp
      refine SimS.mono ?_ (set_new R' E hnp (by omega) ho)
      intro l hk
      simp only [kpS, decide_eq_true_eq] at hk
      exact Ne.symm hk
    · trivial
  | v hv => cases hv with
    | ref h => trivial
    | flat h =>
      rename_i x
      simp only [lay_v, loc_bel h]
      exact SimS.ok R' (E.set i h) .nx
theorem ss_asg {t : Tg} (h : SE2 T1 T2 a) (ht : isTt t = true) : ∀ (θ : Th) (S1 S2 : Sto) (env1 env2 : Env), Rel θ S1 S2 → ERel θ env1 env2 → SimS np (fun l => kpS l (.asg t a) = true) θ S1 S2 (evS T1 (.asg t a) env1 S1) (evS T2 (.asg t a) env2 S2) := by
  intro θ S1 S2 env1 env2 R E
  simp only [evS_asg]
  refine SimS.st R (h θ S1 S2 env1 env2 R E) E fun r1 r2 S1' S2' p R' l' => ?_
  have hL : ∀ (xs : List Val), Val.belL 0 xs = true → ∀ e2, asgL t xs env2 = some e2 → ∃ e1, asgL t xs env1 = some e1 ∧ ERel θ e1 e2 := by
    intro xs hx e2 q
    cases t with
    | n i => cases q
    | t ts => exact asgTs_sim ts xs env1 env2 e2 E hx q
  cases p.1 with
  | t ho =>
    rename_i o
    cases o with
    | lst xs =>
      simp only []
      cases q : asgL t xs env2 with
      | none => trivial
      | some e2 =>
        obtain ⟨e1, h1, E1⟩ := hL xs ho e2 q
        rw [h1]
        exact SimS.ok R' E1 .nx
    | dic _ => trivial
    | ins _ _ => trivial
  | v hv => cases hv with
    | ref h =>
      rename_i l q
      simp only []
      cases t with
      | n i => cases ht
      | t ts =>
        obtain ⟨o, g1, g2⟩ := R'.get _ _ h
        simp only [asgT, lstW, g1, g2]
        cases o with
        | lst xs =>
          simp only [Option.bind_some]
          cases q : asgL (.t ts) xs env2 with
          | none => trivial
          | some e2 =>
            obtain ⟨e1, h1, E1⟩ := hL xs (belS_mem R'.f2 (List.mem_of_getElem? g1)) e2 q
            rw [h1]
            exact SimS.ok R' E1 .nx
        | dic _ => trivial
        | ins _ _ => trivial
    | flat h =>
      rename_i x
      simp only []
      cases q : asgT t x env2 with
      | some e2 =>
        obtain ⟨e1, h1, E1⟩ := asgT_sim t x env1 env2 e2 E h q
        rw [h1]
        exact SimS.ok R' E1 .nx
      | none =>
        have : lstW S2' (.v x) = none := by
          cases x with
          | ref l => rw [bel_ref0] at h; cases h
          | _ => rfl
        simp only [this]
        trivial
theorem pl_eq {θ : Th} {e : E} (hp : plE e = true) {r1 r2 : Rv} (p : PE2 e θ r1 r2) : ∃ z, r1 = .v z ∧ r2 = .v z ∧ z.bel 0 = true := by
  obtain ⟨z, rfl, hz⟩ := p.2.1 hp
  cases p.1 with
  | v h => cases h with
    | ref h => rw [bel_ref0] at hz; cases hz
    | flat h => exact ⟨z, rfl, rfl, hz⟩
theorem ss_par {i j : Nat} (h : SP2 T1 T2 (.cons a (.cons b .nil))) : ∀ (θ : Th) (S1 S2 : Sto) (env1 env2 : Env), Rel θ S1 S2 → ERel θ env1 env2 → SimS np (fun l => kpS l (.par i j a b) = true) θ S1 S2 (evS T1 (.par i j a b) env1 S1) (evS T2 (.par i j a b) env2 S2) := by
  intro θ S1 S2 env1 env2 R E
  simp only [evS_par]
  refine SimS.st R (h θ S1 S2 env1 env2 R E) E fun xs1 xs2 S1' S2' p R' l' => ?_
  obtain ⟨rfl, hb⟩ := p
  match xs1, hb with
  | [], _ => trivial
  | [_], _ => trivial
  | [x, y], hb =>
    simp only [Val.belL, Bool.and_eq_true, and_true] at hb
    exact SimS.ok R' ((E.set i hb.1).set j hb.2) .nx
  | _ :: _ :: _ :: _, _ => trivial
theorem ss_setIx (h1 : SE2 T1 T2 a) (h2 : SE2 T1 T2 b) (h3 : SE2 T1 T2 c) (hp : plE c = true) : ∀ (θ : Th) (S1 S2 : Sto) (env1 env2 : Env), Rel θ S1 S2 → ERel θ env1 env2 → SimS np (fun l => kpS l (.setIx a b c) = true) θ S1 S2 (evS T1 (.setIx a b c) env1 S1) (evS T2 (.setIx a b c) env2 S2) := by
  intro θ S1 S2 env1 env2 R E
  simp only [evS_setIx]
  refine SimS.st R (h3 θ S1 S2 env1 env2 R E) E fun r1 r2 S1' S2' p R' l' => ?_
  obtain ⟨z, rfl, rfl, hz⟩ := pl_eq hp p
  simp only [lay_v]
  refine SimS.st R' (h1 θ S1' S2' env1 env2 R' E) E fun x1 x2 S3 S4 p3 R3 l3 => ?_
  refine SimS.st R3 (h2 θ S3 S4 env1 env2 R3 E) E fun y1 y2 S5 S6 p5 R5 l5 => ?_
  cases p3.1 with
  | t ho => trivial
  | v hv => cases hv with
    | flat h => rename_i x; cases x with
      | ref l => rw [bel_ref0] at h; cases h
      | _ => trivial
    | ref h =>
      rename_i l q
      obtain ⟨o, g1, g2⟩ := R5.get _ _ h
      have key : ∀ (k : Val), k.bel 0 = true → ∀ o', setOb k z o = some o' → SimS np (fun l => kpS l (.setIx a b c) = true) θ S5 S6 (.ok .nx env1 (S5.set q o')) (.ok .nx env2 (S6.set l o')) := by
        intro k hk o' e
        have ho' := setOb_fl (belS_mem R5.f2 (List.mem_of_getElem? g1)) hk hz e
        exact ⟨θ, .nx, env1, _, rfl, .nx, E, R5.set h ho', by simp, Nxt.of (by simp) (Out.set h _), fun _ _ => rfl⟩
      cases p5.1 with
      | t ho => trivial
      | v hv => cases hv with
        | ref h => trivial
        | flat hy =>
          rename_i y
          cases y with
          | int i =>
            simp only [setIxR_eq, g1, g2, Option.bind_some]
            cases e : setOb (.int i) z o with
            | none => trivial
            | some o' => exact key _ (bel_int 0 i) o' e
          | str s =>
            simp only [setKeyR_eq, g1, g2, Option.bind_some]
            cases e : setOb (.str s) z o with
            | none => trivial
            | some o' => exact key _ (bel_str 0 s) o' e
          | _ => trivial
theorem aug_fl {o : Bop} {x z : Val} {r : Rv} (e : augR o x r = some z) : z.bel 0 = true := by
  unfold augR at e
  split at e
  · cases e; exact bel_int 0 _
  · split at e
    · cases e; exact bel_str 0 _
    · cases e
  · cases e; exact bel_int 0 _
  · split at e
    · cases e; exact bel_int 0 _
    · cases e
  · cases e
theorem ss_aug {i : Nat} {o : Bop} (h : SE2 T1 T2 a) : ∀ (θ : Th) (S1 S2 : Sto) (env1 env2 : Env), Rel θ S1 S2 → ERel θ env1 env2 → SimS np (fun l => kpS l (.aug i o a) = true) θ S1 S2 (evS T1 (.aug i o a) env1 S1) (evS T2 (.aug i o a) env2 S2) := by
  intro θ S1 S2 env1 env2 R E
  simp only [evS_aug]
  cases q : env2[i]? with
  | none => trivial
  | some ox => cases ox with
    | none => trivial
    | some x =>
      obtain ⟨y, e1, v⟩ := E.at' i x q
      rw [e1]
      simp only []
      refine SimS.st R (h θ S1 S2 env1 env2 R E) E fun r1 r2 S1' S2' p R' l' => ?_
      cases k : augR o x r2 with
      | none => trivial
      | some z =>
        have hz := aug_fl k
        have k1 : augR o y r1 = some z := by
          cases v with
          | ref h => cases o <;> simp [augR] at k
          | flat hx =>
            cases p.1 with
            | t ho => exact k
            | v hv => cases hv with
              | flat h => exact k
              | ref h => cases o <;> cases x <;> simp [augR] at k
        rw [k1]
        exact SimS.ok R' (E.set i hz) .nx
theorem ss_ex (h : SE2 T1 T2 a) : ∀ (θ : Th) (S1 S2 : Sto) (env1 env2 : Env), Rel θ S1 S2 → ERel θ env1 env2 → SimS np (fun l => kpS l (.ex a) = true) θ S1 S2 (evS T1 (.ex a) env1 S1) (evS T2 (.ex a) env2 S2) := by
  intro θ S1 S2 env1 env2 R E
  simp only [evS_ex]
  exact SimS.st R (h θ S1 S2 env1 env2 R E) E fun r1 r2 S1' S2' p R' l' => SimS.ok R' E .nx
theorem ss_ret (h : SE2 T1 T2 a) : ∀ (θ : Th) (S1 S2 : Sto) (env1 env2 : Env), Rel θ S1 S2 → ERel θ env1 env2 → SimS np (fun l => kpS l (.ret (.some a)) = true) θ S1 S2 (evS T1 (.ret (.some a)) env1 S1) (evS T2 (.ret (.some a)) env2 S2) := by
  intro θ S1 S2 env1 env2 R E
  simp only [evS_ret]
  exact SimS.st R (h θ S1 S2 env1 env2 R E) E fun r1 r2 S1' S2' p R' l' => SimS.ok R' E (.rt p.1)
theorem ss_wh {c : E} {b : Cs} (hc : Both T1 T2 c) (hb : SB2 T1 T2 np n b) : ∀ (k : Nat) (θ : Th) (S1 S2 : Sto) (env1 env2 : Env), Rel θ S1 S2 → ERel θ env1 env2 → S2.length = n → SimS np (fun l => kpB l b = true) θ S1 S2 (whL (evT T1 c) (evB T1 b) k env1 S1) (whL (evT T2 c) (evB2 np T2 b) k env2 S2)
  | 0, θ, S1, S2, env1, env2, R, E, hl => trivial
  | k + 1, θ, S1, S2, env1, env2, R, E, hl => by
    simp only [whL]
    refine SimS.st R (hc.st θ S1 S2 env1 env2 R E) E fun k1 k2 S1' S2' hk R' l' => ?_
    subst hk
    refine SimS.ite ?_ (SimS.ok R' E .nx)
    have h := hb θ S1' S2' env1 env2 R' E (by omega)
    cases q : evB2 np T2 b env2 S2' with
    | bad => trivial
    | exc x e2 S =>
      rw [q] at h
      obtain ⟨θ2, e1, S3, e, r⟩ := h
      rw [e]
      exact ⟨θ2, e1, S3, rfl, r⟩
    | ok fl e2 S =>
      rw [q] at h
      obtain ⟨θ2, fl1, e1, S3, e, fr, E2, R2, l2, x, y⟩ := h
      rw [e]
      cases fr with
      | nx => exact SimS.step x l2 y (ss_wh hc hb k θ2 S3 S e1 e2 R2 E2 (by omega))
      | ct => exact SimS.step x l2 y (ss_wh hc hb k θ2 S3 S e1 e2 R2 E2 (by omega))
      | bk => exact ⟨θ2, .nx, e1, S3, rfl, .nx, E2, R2, l2, x, y⟩
      | rt hr => exact ⟨θ2, _, e1, S3, rfl, .rt hr, E2, R2, l2, x, y⟩
theorem ss_forL {t : Tg} {b : Cs} (hb : SB2 T1 T2 np n b) (live1 live2 : List (Nat × List Val)) (hk : ∀ p ∈ live2, kpB p.1 b = true) : ∀ (xs : List Val) (θ : Th) (S1 S2 : Sto) (env1 env2 : Env), Val.belL 0 xs = true → LRel θ live1 live2 → Rel θ S1 S2 → ERel θ env1 env2 → S2.length = n → SimS np (fun l => kpB l b = true) θ S1 S2 (forL (evB T1 b) t live1 xs env1 S1) (forL (evB2 np T2 b) t live2 xs env2 S2)
  | [], θ, S1, S2, env1, env2, hx, L, R, E, hl => by
    simp only [forL]
    unfold guardS
    by_cases k : liveOk S2 live2
    · rw [if_pos k, if_pos (L.ok R k)]
      exact SimS.ok R E .nx
    · rw [if_neg k]
      trivial
  | x :: xs, θ, S1, S2, env1, env2, hx, L, R, E, hl => by
    simp only [Val.belL, Bool.and_eq_true] at hx
    simp only [forL]
    unfold guardS
    by_cases k : liveOk S2 live2
    · rw [if_pos k, if_pos (L.ok R k)]
      cases q : asgT t x env2 with
      | none => trivial
      | some e2 =>
        obtain ⟨e1, h1, E1⟩ := asgT_sim t x env1 env2 e2 E hx.1 q
        rw [h1]
        simp only []
        have h := hb θ S1 S2 e1 e2 R E1 hl
        cases q2 : evB2 np T2 b e2 S2 with
        | bad => trivial
        | exc x e3 S =>
          rw [q2] at h
          obtain ⟨θ2, e4, S3, e, r⟩ := h
          rw [e]
          exact ⟨θ2, e4, S3, rfl, r⟩
        | ok fl e3 S =>
          rw [q2] at h
          obtain ⟨θ2, fl1, e4, S3, e, fr, E2, R2, l2, x2, y⟩ := h
          rw [e]
          have L2 : LRel θ2 live1 live2 := by
            have : ∀ (l1 l2 : List (Nat × List Val)), LRel θ l1 l2 → (∀ p ∈ l2, kpB p.1 b = true) → LRel θ2 l1 l2 := by
              intro l1 l2 L
              induction L with
              | nil => intro _; exact .nil
              | cons h _ ih => intro hh; exact .cons ((y _ (hh _ (List.mem_cons_self ..))).trans h) (ih fun p hp => hh p (List.mem_cons_of_mem _ hp))
            exact this _ _ L hk
          cases fr with
          | nx => exact SimS.step x2 l2 y (ss_forL hb live1 live2 hk xs θ2 S3 S e4 e3 hx.2 L2 R2 E2 (by omega))
          | ct => exact SimS.step x2 l2 y (ss_forL hb live1 live2 hk xs θ2 S3 S e4 e3 hx.2 L2 R2 E2 (by omega))
          | bk => exact ⟨θ2, .nx, e4, S3, rfl, .nx, E2, R2, l2, x2, y⟩
          | rt hr => exact ⟨θ2, _, e4, S3, rfl, .rt hr, E2, R2, l2, x2, y⟩
    · rw [if_neg k]
      trivial
theorem kill_one {θ : Th} {S1 S2 : Sto} {env1 env2 : Env} (R : Rel θ S1 S2) (E : ERel θ env1 env2) (i : Nat) : ∃ θ', Rel θ' S1 (S2.set i dmy) ∧ ERel θ' env1 (env2.set i none) ∧ (∀ l, l ≠ i → θ' l = θ l) ∧ ∀ l q, θ' l = some q → θ l = some q := by
  let θ' : Th := fun l => if l = i then none else θ l
  have hs : ∀ l q, θ' l = some q → l ≠ i ∧ θ l = some q := fun l q h => by
    simp only [θ'] at h
    split at h
    · cases h
    · exact ⟨by assumption, h⟩
  refine ⟨θ', ⟨fun l m q h1 h2 => R.inj l m q (hs _ _ h1).2 (hs _ _ h2).2, fun l q h => ?_, R.f1, belS_set R.f2 rfl⟩, ⟨by simp [E.len], fun j y h => ?_, fun j l h => ?_⟩, fun l h => if_neg h, fun l q h => (hs l q h).2⟩
  · obtain ⟨h1, h2⟩ := hs l q h
    obtain ⟨o, g1, g2⟩ := R.get l q h2
    exact ⟨o, by rw [List.getElem?_set_ne (Ne.symm h1)]; exact g1, g2⟩
  · by_cases e : i = j
    · subst e
      have hl : i < env2.length := by simpa using (List.getElem?_eq_some_iff.mp h).1
      rw [List.getElem?_set_self hl] at h
      cases h
    · rw [List.getElem?_set_ne e] at h
      obtain ⟨z, h1, h2⟩ := E.at' j y h
      refine ⟨z, h1, ?_⟩
      cases h2 with
      | flat h2 => exact .flat h2
      | ref h2 =>
        have := E.own j _ h
        exact .ref (by simp only [θ']; rw [if_neg (by omega)]; exact h2)
  · by_cases e : i = j
    · subst e
      have hl : i < env2.length := by simpa using (List.getElem?_eq_some_iff.mp h).1
      rw [List.getElem?_set_self hl] at h
      cases h
    · rw [List.getElem?_set_ne e] at h
      exact E.own j l h
theorem kill_all {S1 S2 : Sto} {env1 env2 : Env} {θ : Th} (R : Rel θ S1 S2) (E : ERel θ env1 env2) : ∀ is : List Nat, ∃ θ', Rel θ' S1 (wipeS S2 is) ∧ ERel θ' env1 (wipeE env2 is) ∧ (∀ l, l ∉ is → θ' l = θ l) ∧ ∀ l q, θ' l = some q → θ l = some q
  | [] => ⟨θ, R, E, fun _ _ => rfl, fun _ _ h => h⟩
  | i :: is => by
    obtain ⟨θ1, R1, E1, h1, h2⟩ := kill_all R E is
    obtain ⟨θ2, R2, E2, h3, h4⟩ := kill_one R1 E1 i
    exact ⟨θ2, R2, E2, fun l hl => by
      simp only [List.mem_cons, not_or] at hl
      rw [h3 l hl.1, h1 l hl.2], fun l q h => h2 l q (h4 l q h)⟩
theorem ERel.setN {θ : Th} {env1 env2 : Env} {i : Nat} (E : ERel θ env1 env2) : ERel θ (env1.set i none) (env2.set i none) := by
  refine ⟨by simp [E.len], fun j y h => ?_, fun j l h => ?_⟩
  · by_cases e : i = j
    · subst e
      have hl : i < env2.length := by simpa using (List.getElem?_eq_some_iff.mp h).1
      rw [List.getElem?_set_self hl] at h
      cases h
    · rw [List.getElem?_set_ne e] at h
      rw [List.getElem?_set_ne e]
      exact E.at' j y h
  · by_cases e : i = j
    · subst e
      have hl : i < env2.length := by simpa using (List.getElem?_eq_some_iff.mp h).1
      rw [List.getElem?_set_self hl] at h
      cases h
    · rw [List.getElem?_set_ne e] at h
      exact E.own j l h
theorem SimS.hEnd {np : Nat} {kp : Nat → Prop} {θ : Th} {S1 S2 : Sto} {r1 r2 : SR} {i : Nat} (k : SimS np kp θ S1 S2 r1 r2) : SimS np kp θ S1 S2 (Fe.hEnd i r1) (Fe.hEnd i r2) := by
  cases r2 with
  | ok fl env S =>
    obtain ⟨θ2, fl1, e1, S3, e, f, E, R, l, x, y⟩ := k
    exact ⟨θ2, fl1, e1.set i none, S3, by rw [e]; rfl, f, E.setN, R, l, x, y⟩
  | exc x env S => trivial
  | bad => trivial
theorem wipeS_len (S : Sto) : ∀ is : List Nat, (wipeS S is).length = S.length
  | [] => rfl
  | i :: is => by simp [wipeS, wipeS_len S is]
end
mutual
theorem simS (F : SimF T1 T2) (np n : Nat) : ∀ c : C, okS np n c = true → ∀ (θ : Th) (S1 S2 : Sto) (env1 env2 : Env), Rel θ S1 S2 → ERel θ env1 env2 → S2.length = n → SimS np (fun l => kpS l c = true) θ S1 S2 (evS T1 c env1 S1) (evS2 np T2 c env2 S2)
  | .set i e, h, θ, S1, S2, env1, env2, R, E, hl => by
    simp only [okS, Bool.and_eq_true, decide_eq_true_eq] at h
    exact ss_set (simE F e h.1).se h.2 θ S1 S2 env1 env2 R E hl
  | .asg t e, h, θ, S1, S2, env1, env2, R, E, hl => by
    simp only [okS, Bool.and_eq_true] at h
    simp only [evS2]
    exact ss_asg (simE F e h.1).se h.2 θ S1 S2 env1 env2 R E
  | .par i j a b, h, θ, S1, S2, env1, env2, R, E, hl => by
    simp only [okS, Bool.and_eq_true] at h
    simp only [evS2]
    exact ss_par (simP F (.cons a (.cons b .nil)) (by simp [okA, h.1.1.1, h.1.2]) (by simp [plA, h.1.1.2, h.2])) θ S1 S2 env1 env2 R E
  | .setIx o i e, h, θ, S1, S2, env1, env2, R, E, hl => by
    simp only [okS, Bool.and_eq_true] at h
    simp only [evS2]
    exact ss_setIx (simE F o h.1.1.1).se (simE F i h.1.1.2).se (simE F e h.1.2).se h.2 θ S1 S2 env1 env2 R E
  | .aug i o e, h, θ, S1, S2, env1, env2, R, E, hl => by
    simp only [evS2]
    exact ss_aug (simE F e h).se θ S1 S2 env1 env2 R E
  | .ex e, h, θ, S1, S2, env1, env2, R, E, hl => by
    simp only [evS2]
    exact ss_ex (simE F e h).se θ S1 S2 env1 env2 R E
  | .ret .none, h, θ, S1, S2, env1, env2, R, E, hl => by
    simp only [evS2, evS_retN]
    exact SimS.ok R E (.rt (.v (.flat (bel_non 0))))
  | .ret (.some e), h, θ, S1, S2, env1, env2, R, E, hl => by
    simp only [evS2]
    exact ss_ret (simE F e h).se θ S1 S2 env1 env2 R E
  | .ite c a b, h, θ, S1, S2, env1, env2, R, E, hl => by
    simp only [okS, Bool.and_eq_true] at h
    simp only [evS2, evS_ite]
    refine SimS.st R ((simE F c h.1.1).st θ S1 S2 env1 env2 R E) E fun k1 k2 S1' S2' hk R' l' => ?_
    subst hk
    refine SimS.ite (SimS.mono ?_ (simB F np n a h.1.2 θ S1' S2' env1 env2 R' E (by omega))) (SimS.mono ?_ (simB F np n b h.2 θ S1' S2' env1 env2 R' E (by omega)))
    · intro l hk; simp only [kpS, Bool.and_eq_true] at hk; exact hk.1
    · intro l hk; simp only [kpS, Bool.and_eq_true] at hk; exact hk.2
  | .wh c b, h, θ, S1, S2, env1, env2, R, E, hl => by
    simp only [okS, Bool.and_eq_true] at h
    simp only [evS2, evS_wh]
    exact ss_wh (simE F c h.1) (simB F np n b h.2) whFuel θ S1 S2 env1 env2 R E hl
  | .for t it b, h, θ, S1, S2, env1, env2, R, E, hl => by
    simp only [okS, Bool.and_eq_true] at h
    simp only [evS2, evS_for]
    refine SimS.st R (simI F it h.1.1 θ S1 S2 env1 env2 R E) E fun s1 s2 S1' S2' p R' l' => ?_
    rw [p.items]
    exact ss_forL (simB F np n b h.1.2) s1.live s2.live (fun q hq => List.all_eq_true.mp h.2 _ (p.own q hq)) s2.items θ S1' S2' env1 env2 p.flat p.live R' E (by omega)
  | .pass, h, θ, S1, S2, env1, env2, R, E, hl => by
    simp only [evS2, evS_pass]
    exact SimS.ok R E .nx
  | .cont, h, θ, S1, S2, env1, env2, R, E, hl => by
    simp only [evS2, evS_cont]
    exact SimS.ok R E .ct
  | .brk, h, θ, S1, S2, env1, env2, R, E, hl => by
    simp only [evS2, evS_brk]
    exact SimS.ok R E .bk
  | .rse c m, h, θ, S1, S2, env1, env2, R, E, hl => by
    simp only [evS2, evS_rse]
    exact ⟨θ, env1, S1, rfl, E, R, Nat.le_refl _, Nxt.refl, fun l q z => (R.dom z).1, fun _ _ => rfl⟩
  | .tryE tb b c i ifs p q, h, θ, S1, S2, env1, env2, R, E, hl => by
    simp only [evS2, evS_tryE]
    have k := simB F np n b h θ S1 S2 env1 env2 R E hl
    cases e : evB2 np T2 b env2 S2 with
    | bad => trivial
    | ok fl e2 S =>
      rw [e] at k
      obtain ⟨θ2, fl1, e1, S3, e3, r⟩ := k
      rw [e3]
      exact ⟨θ2, fl1, e1, S3, rfl, r⟩
    | exc x e2 S =>
      rw [e] at k
      obtain ⟨θ2, e1, S3, e3, E2, R2, l2, x2, d, y⟩ := k
      rw [e3]
      have R3 : Rel θ2 S3 (S.take S2.length) := by
        have := Rel.take R2 (n := S3.length) (m := S2.length) fun l q z => ⟨d l q z, (R2.dom z).2⟩
        rwa [List.take_length] at this
      have ll : (S.take S2.length).length = S2.length := by rw [List.length_take]; omega
      simp only [meetE, cutX]
      cases tb.lookup x.cls with
      | none => trivial
      | some sups =>
        simp only []
        split
        · exact ⟨θ2, _, e1, S3, rfl, .rt (.v (.flat (bel_bl 0 _))), E2, R3, ll, x2, y⟩
        · exact ⟨θ2, e1, S3, rfl, E2, R3, by omega, x2, d, y⟩
  | .tryH ps b c i hs, h, θ, S1, S2, env1, env2, R, E, hl => by
    simp only [okS, Bool.and_eq_true] at h
    simp only [evS2, evS_tryH]
    have k := simB F np n b h.1 θ S1 S2 env1 env2 R E hl
    cases e : evB2 np T2 b env2 S2 with
    | bad => trivial
    | ok fl e2 S =>
      rw [e] at k
      obtain ⟨θ2, fl1, e1, S3, e3, f, E2, R2, l2, x2, y⟩ := k
      rw [e3]
      exact ⟨θ2, fl1, e1, S3, rfl, f, E2, R2, l2, x2, fun l hk => y l (by simp only [kpS, Bool.and_eq_true] at hk; exact hk.1)⟩
    | exc x e2 S =>
      rw [e] at k
      obtain ⟨θ2, e1, S3, e3, E2, R2, l2, x2, d, y⟩ := k
      rw [e3]
      have R3 : Rel θ2 S3 (S.take S2.length) := by
        have := Rel.take R2 (n := S3.length) (m := S2.length) fun l q z => ⟨d l q z, (R2.dom z).2⟩
        rwa [List.take_length] at this
      have ll : (S.take S2.length).length = S2.length := by rw [List.length_take]; omega
      simp only [meetH, cutX]
      refine SimS.step (S2' := S.take S2.length) x2 ll (fun l hk => y l (by simp only [kpS, Bool.and_eq_true] at hk; exact hk.1)) (SimS.mono ?_ (simH F np n hs h.2 ps i x θ2 S3 (S.take S2.length) e1 e2 R3 E2 (by omega)))
      intro l hk
      simp only [kpS, Bool.and_eq_true] at hk
      exact hk.2
  | .never, h, θ, S1, S2, env1, env2, R, E, hl => by
    simp only [evS2]
    trivial
theorem simB (F : SimF T1 T2) (np n : Nat) : ∀ c : Cs, okB np n c = true → ∀ (θ : Th) (S1 S2 : Sto) (env1 env2 : Env), Rel θ S1 S2 → ERel θ env1 env2 → S2.length = n → SimS np (fun l => kpB l c = true) θ S1 S2 (evB T1 c env1 S1) (evB2 np T2 c env2 S2)
  | .nil, h, θ, S1, S2, env1, env2, R, E, hl => by
    simp only [evB2, evB_nil]
    exact SimS.ok R E .nx
  | .cons c r, h, θ, S1, S2, env1, env2, R, E, hl => by
    simp only [okB, Bool.and_eq_true] at h
    simp only [evB2, evB_cons]
    refine SimS.bind (SimS.mono ?_ (simS F np n c h.1 θ S1 S2 env1 env2 R E hl)) fun θ' e1 e2 S1' S2' E' R' l' => SimS.mono ?_ (simB F np n r h.2 θ' S1' S2' e1 e2 R' E' (by omega))
    · intro l hk; simp only [kpB, Bool.and_eq_true] at hk; exact hk.1
    · intro l hk; simp only [kpB, Bool.and_eq_true] at hk; exact hk.2
  | .kill is r, h, θ, S1, S2, env1, env2, R, E, hl => by
    simp only [okB, Bool.and_eq_true, List.all_eq_true, decide_eq_true_eq] at h
    simp only [evB2, evB_kill]
    obtain ⟨θ', R', E', h1, h2⟩ := kill_all R E is
    refine SimS.step (S1' := S1) (S2' := wipeS S2 is) (θ' := θ') ⟨Nat.le_refl _, Out.refl, fun j hj => h1 j fun z => ?_, fun l q z => .inl (h2 l q z)⟩ (wipeS_len S2 is) ?_ (SimS.mono ?_ (simB F np n r h.2 θ' S1 (wipeS S2 is) env1 (wipeE env2 is) R' E' (by rw [wipeS_len]; exact hl)))
    · have := h.1 j z; omega
    · intro l hk
      simp only [kpB, Bool.and_eq_true, Bool.not_eq_true', List.contains_eq_mem, decide_eq_false_iff_not] at hk
      exact h1 l hk.1
    · intro l hk
      simp only [kpB, Bool.and_eq_true] at hk
      exact hk.2
theorem simH (F : SimF T1 T2) (np n : Nat) : ∀ hs : Hl, okH np n hs = true → ∀ (ps : List Str) (i : Nat) (x : Exn) (θ : Th) (S1 S2 : Sto) (env1 env2 : Env), Rel θ S1 S2 → ERel θ env1 env2 → S2.length = n → SimS np (fun l => kpH l hs = true) θ S1 S2 (evH T1 hs ps i x env1 S1) (evH2 np T2 hs ps i x env2 S2)
  | .nil, h, ps, i, x, θ, S1, S2, env1, env2, R, E, hl => by
    simp only [evH2, evH_nil]
    split
    · exact ⟨θ, env1, S1, rfl, E, R, Nat.le_refl _, Nxt.refl, fun l q z => (R.dom z).1, fun _ _ => rfl⟩
    · trivial
  | .cons c b r, h, ps, i, x, θ, S1, S2, env1, env2, R, E, hl => by
    simp only [okH, Bool.and_eq_true] at h
    simp only [evH2, evH_cons]
    split
    · refine SimS.hEnd (SimS.mono ?_ (simB F np n b h.1 θ S1 S2 _ _ R E.setN hl))
      intro l hk
      simp only [kpH, Bool.and_eq_true] at hk
      exact hk.1
    · refine SimS.mono ?_ (simH F np n r h.2 ps i x θ S1 S2 env1 env2 R E hl)
      intro l hk
      simp only [kpH, Bool.and_eq_true] at hk
      exact hk.2
end
/-! ### functions -/
theorem bindE_len : ∀ (xs : List Val) (j : Nat), (bindE j xs).length = xs.length
  | [], j => rfl
  | x :: xs, j => by simp [bindE, bindE_len xs (j + 1)]
theorem bindS_len (S : Sto) : ∀ (xs : List Val), (bindS S xs).length = xs.length
  | [] => rfl
  | x :: xs => by simp [bindS, bindS_len S xs]
theorem bindE_get : ∀ (xs : List Val) (k i : Nat) (x : Val), xs[i]? = some x → (bindE k xs)[i]? = some (match x.loc with | some _ => some (.ref (k + i)) | none => some x)
  | [], k, i, x, h => by simp at h
  | y :: ys, k, 0, x, h => by
    simp at h
    subst h
    simp only [bindE, List.getElem?_cons_zero, Nat.add_zero]
    all_goals (cases y.loc <;> rfl)
  | y :: ys, k, i + 1, x, h => by
    simp at h
    have := bindE_get ys (k + 1) i x h
    simp only [bindE, List.getElem?_cons_succ]
    rw [this]
    have e : k + 1 + i = k + (i + 1) := by omega
    rw [e]
theorem bindS_get (S : Sto) : ∀ (xs : List Val) (i : Nat) (x : Val), xs[i]? = some x → (bindS S xs)[i]? = some (match x.loc with | some l => (S[l]?).getD dmy | none => dmy)
  | [], i, x, h => by simp at h
  | y :: ys, 0, x, h => by
    simp at h
    subst h
    simp only [bindS, List.getElem?_cons_zero]
    all_goals (cases y.loc <;> rfl)
  | y :: ys, i + 1, x, h => by
    simp at h
    simp only [bindS, List.getElem?_cons_succ]
    exact bindS_get S ys i x h
theorem VRels.len {θ : Th} {ys xs : List Val} (h : VRels θ ys xs) : ys.length = xs.length := by
  induction h with
  | nil => rfl
  | cons _ _ ih => simp [ih]
theorem VRels.get {θ : Th} {ys xs : List Val} (h : VRels θ ys xs) : ∀ (i : Nat) (x : Val), xs[i]? = some x → ∃ y, ys[i]? = some y ∧ VRel θ y x := by
  induction h with
  | nil => intro i x e; simp at e
  | cons h _ ih =>
    intro i x e
    cases i with
    | zero => simp at e; subst e; exact ⟨_, rfl, h⟩
    | succ i => simp at e; exact ih i x e
theorem dist_inj : ∀ (xs : List Val) (i j l : Nat), distL xs = true → xs[i]? = some (.ref l) → xs[j]? = some (.ref l) → i = j
  | [], i, j, l, _, h, _ => by simp at h
  | x :: xs, i, j, l, hd, h1, h2 => by
    simp only [distL, Bool.and_eq_true] at hd
    have nin : ∀ k : Nat, x = Val.ref l → xs[k]? ≠ some (Val.ref l) := fun k e q => by
      subst e
      have := hd.1
      have h2 := List.all_eq_true.mp this _ (List.mem_of_getElem? q)
      simp [Val.loc] at h2
    cases i with
    | zero => cases j with
      | zero => rfl
      | succ j =>
        simp at h1 h2
        exact absurd h2 (nin j h1)
    | succ i => cases j with
      | zero =>
        simp at h1 h2
        exact absurd h1 (nin i h2)
      | succ j =>
        simp at h1 h2
        rw [dist_inj xs i j l hd.2 h1 h2]
theorem back_len (S' : Sto) : ∀ (xs : List Val) (j : Nat) (S : Sto), (back S' j xs S).length = S.length
  | [], j, S => rfl
  | x :: xs, j, S => by
    simp only [back]
    split
    · simp [back_len S' xs (j + 1) S]
    · exact back_len S' xs (j + 1) S
theorem back_fl (S' : Sto) (h' : belS 0 S' = true) : ∀ (xs : List Val) (j : Nat) (S : Sto), belS 0 S = true → belS 0 (back S' j xs S) = true
  | [], j, S, h => h
  | x :: xs, j, S, h => by
    simp only [back]
    split
    · refine belS_set (back_fl S' h' xs (j + 1) S h) ?_
      cases q : S'[j]? with
      | none => rfl
      | some o => exact belS_mem h' (List.mem_of_getElem? q)
    · exact back_fl S' h' xs (j + 1) S h
theorem back_no (S' : Sto) (l : Nat) : ∀ (xs : List Val) (j : Nat) (S : Sto), (∀ i : Nat, xs[i]? ≠ some (Val.ref l)) → (back S' j xs S)[l]? = S[l]?
  | [], j, S, h => rfl
  | x :: xs, j, S, h => by
    have ih := back_no S' l xs (j + 1) S fun i z => h (i + 1) (by simpa using z)
    simp only [back]
    split
    · rename_i m hm
      have : m ≠ l := fun z => h 0 (by rw [loc_eq hm, z]; rfl)
      rw [List.getElem?_set_ne this]
      exact ih
    · exact ih
theorem back_at (S' : Sto) (l : Nat) : ∀ (xs : List Val) (j : Nat) (S : Sto) (i : Nat), distL xs = true → xs[i]? = some (.ref l) → l < S.length → (back S' j xs S)[l]? = some ((S'[j + i]?).getD dmy)
  | [], j, S, i, _, h, _ => by simp at h
  | x :: xs, j, S, i, hd, h, hl => by
    have hd2 := hd
    simp only [distL, Bool.and_eq_true] at hd2
    simp only [back]
    cases i with
    | zero =>
      simp at h
      subst h
      simp only [Val.loc, Nat.add_zero]
      rw [List.getElem?_set_self (by rw [back_len]; exact hl)]
    | succ i =>
      have hx : x ≠ .ref l := fun z => by
        have := dist_inj (x :: xs) 0 (i + 1) l hd (by simp [z]) h
        omega
      simp at h
      have ih := back_at S' l xs (j + 1) S i hd2.2 h hl
      have e : j + 1 + i = j + (i + 1) := by omega
      rw [e] at ih
      split
      · rename_i m hm
        have : m ≠ l := fun z => hx (by rw [loc_eq hm, z])
        rw [List.getElem?_set_ne this]
        exact ih
      · exact ih
theorem simD (F : SimF T1 T2) {d : Fd} (hok : okB d.np d.n d.body = true) (hn : d.np ≤ d.n) (xs1 xs2 : List Val) (S1 S2 : Sto) (θ : Th) (R : Rel θ S1 S2) (V : VRels θ xs1 xs2) : SimT θ S1 S2 (runD T1 d xs1 S1) (runD2 T2 d xs2 S2) := by
  unfold runD2
  split
  · rename_i hc
    obtain ⟨hlen, hd⟩ := hc
    have hlen1 : xs1.length = d.np := by rw [V.len, hlen]
    have hr : runD T1 d xs1 S1 = finS (evB T1 d.body (startE d.n xs1) S1) := runD_eq T1 d xs1 S1 hlen1
    rw [hr]
    let θc : Th := fun j => match xs2[j]? with
      | some x => match x.loc with
        | some l => θ l
        | none => none
      | none => none
    have tc : ∀ j q, θc j = some q → ∃ l, xs2[j]? = some (.ref l) ∧ θ l = some q := by
      intro j q h
      simp only [θc] at h
      split at h
      · rename_i x hx
        split at h
        · rename_i l hl
          exact ⟨l, by rw [hx, loc_eq hl], h⟩
        · cases h
      · cases h
    have tc' : ∀ j l, xs2[j]? = some (.ref l) → θc j = θ l := by
      intro j l h
      simp only [θc, h, Val.loc]
    have jlt : ∀ j l, xs2[j]? = some (.ref l) → j < d.np := fun j l h => by rw [← hlen]; exact (List.getElem?_eq_some_iff.mp h).1
    let S2c : Sto := bindS S2 xs2 ++ List.replicate (d.n - xs2.length) dmy
    have hS2l : S2c.length = d.n := by simp only [S2c, List.length_append, bindS_len, List.length_replicate]; omega
    have fl2 : belS 0 S2c = true := belS_of fun o ho => by
      rcases List.mem_append.mp ho with ho | ho
      · obtain ⟨i, hi, e⟩ := List.getElem_of_mem ho
        rw [bindS_len] at hi
        have g := bindS_get S2 xs2 i xs2[i] (List.getElem?_eq_getElem hi)
        rw [List.getElem?_eq_getElem (by rw [bindS_len]; exact hi), e] at g
        cases g
        split
        · rename_i l hl
          cases q : S2[l]? with
          | none => rfl
          | some o => exact belS_mem R.f2 (List.mem_of_getElem? q)
        · rfl
      · rw [(List.mem_replicate.mp ho).2]; rfl
    have Rc : Rel θc S1 S2c := by
      refine ⟨fun j m q h1 h2 => ?_, fun j q h => ?_, R.f1, fl2⟩
      · obtain ⟨l, a1, a2⟩ := tc j q h1
        obtain ⟨l', b1, b2⟩ := tc m q h2
        have := R.inj l l' q a2 b2
        subst this
        exact dist_inj xs2 j m l hd a1 b1
      · obtain ⟨l, a1, a2⟩ := tc j q h
        obtain ⟨o, g1, g2⟩ := R.get l q a2
        have g := bindS_get S2 xs2 j _ a1
        simp only [Val.loc, g1, Option.getD_some] at g
        refine ⟨o, ?_, g2⟩
        show (bindS S2 xs2 ++ _)[j]? = _
        rw [List.getElem?_append_left (by rw [bindS_len]; exact (List.getElem?_eq_some_iff.mp a1).1)]
        exact g
    have Ec : ERel θc (startE d.n xs1) (bindE 0 xs2 ++ List.replicate (d.n - xs2.length) none) := by
      refine ⟨by simp [startE, bindE_len, V.len], fun i x h => ?_, fun i l h => ?_⟩
      · by_cases hi : i < xs2.length
        · rw [List.getElem?_append_left (by rw [bindE_len]; exact hi)] at h
          obtain ⟨xi, hx⟩ : ∃ xi, xs2[i]? = some xi := ⟨_, List.getElem?_eq_getElem hi⟩
          rw [bindE_get xs2 0 i _ hx] at h
          obtain ⟨y, g1, g2⟩ := V.get i _ hx
          have g3 : (startE d.n xs1)[i]? = some (some y) := by
            unfold startE
            rw [List.getElem?_append_left (by simp; rw [V.len]; exact hi)]
            simp [g1]
          cases g2 with
          | ref g =>
            simp [Val.loc] at h
            subst h
            exact ⟨_, g3, .ref (by rw [tc' i _ hx]; exact g)⟩
          | flat g =>
            rw [loc_bel g] at h
            simp at h
            subst h
            exact ⟨_, g3, .flat g⟩
        · rw [List.getElem?_append_right (by rw [bindE_len]; omega)] at h
          have := List.mem_of_getElem? h
          rw [List.mem_replicate] at this
          cases this.2
      · by_cases hi : i < xs2.length
        · rw [List.getElem?_append_left (by rw [bindE_len]; exact hi)] at h
          have hx := List.getElem?_eq_getElem hi
          rw [bindE_get xs2 0 i _ hx] at h
          cases q : (xs2[i]).loc with
          | some l => rw [q] at h; simp at h; exact h.symm
          | none => rw [q] at h; simp at h; rw [h] at q; cases q
        · rw [List.getElem?_append_right (by rw [bindE_len]; omega)] at h
          have := List.mem_of_getElem? h
          rw [List.mem_replicate] at this
          cases this.2
    have k := simB F d.np d.n d.body hok θc S1 S2c (startE d.n xs1) (bindE 0 xs2 ++ List.replicate (d.n - xs2.length) none) Rc Ec hS2l
    have fin : ∀ (θ' : Th) (S1' S2' : Sto), Rel θ' S1' S2' → Nxt d.np θc S1 θ' S1' → Rel θ S1' (back S2' 0 xs2 S2) ∧ Out θ S1 S1' := by
      intro θ' S1' S2' R' N
      refine ⟨⟨R.inj, fun l q h => ?_, R'.f1, back_fl S2' R'.f2 xs2 0 S2 R.f2⟩, fun q hq nn => N.out q hq fun j z => ?_⟩
      · obtain ⟨o, g1, g2⟩ := R.get l q h
        by_cases hx : ∃ j : Nat, xs2[j]? = some (Val.ref l)
        · obtain ⟨j, hj⟩ := hx
          have e : θ' j = some q := by rw [N.par j (jlt j l hj), tc' j l hj]; exact h
          obtain ⟨o', p1, p2⟩ := R'.get j q e
          refine ⟨o', ?_, p2⟩
          rw [back_at S2' l xs2 0 S2 j hd hj (R.dom h).1]
          simp [p1]
        · refine ⟨o, ?_, ?_⟩
          · rw [back_no S2' l xs2 0 S2 fun j z => hx ⟨j, z⟩]
            exact g1
          · rw [N.out q (R.dom h).2 fun j z => ?_]
            · exact g2
            · obtain ⟨m, a1, a2⟩ := tc j q z
              have := R.inj l m q h a2
              subst this
              exact hx ⟨j, a1⟩
      · obtain ⟨m, a1, a2⟩ := tc j q z
        exact nn m a2
    cases q : evB2 d.np T2 d.body (bindE 0 xs2 ++ List.replicate (d.n - xs2.length) none) S2c with
    | bad => trivial
    | exc x e2 S2' =>
      rw [q] at k
      obtain ⟨θ', e1, S1', e, E', R', l', N, _⟩ := k
      rw [e]
      obtain ⟨R2, o⟩ := fin θ' S1' S2' R' N
      exact ⟨S1', rfl, R2, N.le, by rw [back_len]; exact Nat.le_refl _, o⟩
    | ok fl e2 S2' =>
      rw [q] at k
      obtain ⟨θ', fl1, e1, S1', e, fr, E', R', l', N, _⟩ := k
      rw [e]
      obtain ⟨R2, o⟩ := fin θ' S1' S2' R' N
      cases fr with
      | bk => trivial
      | ct => trivial
      | nx => exact ⟨_, S1', rfl, ⟨bel_non 0, rfl⟩, R2.w _, N.le, by rw [back_len], o⟩
      | rt hr => cases hr with
        | t ho => exact ⟨_, S1', rfl, ⟨ho, .inl rfl⟩, R2.w _, N.le, by rw [back_len], o⟩
        | v hv => cases hv with
          | flat hx =>
            simp only [fin2, loc_bel hx]
            exact ⟨_, S1', rfl, ⟨hx, rfl⟩, R2.w _, N.le, by rw [back_len], o⟩
          | ref hx =>
            rename_i j p
            simp only [fin2, Val.loc]
            split
            · rename_i hj
              obtain ⟨ob, g1, g2⟩ := R'.get j p hx
              rw [g1]
              simp only []
              refine ⟨_, S1', rfl, ⟨belS_mem R'.f2 (List.mem_of_getElem? g1), .inr ⟨p, rfl, ?_, g2⟩⟩, R2.w _, N.le, by rw [back_len], o⟩
              rcases N.new j p hx with z | z
              · obtain ⟨l, a1, _⟩ := tc j p z
                have := jlt j l a1
                omega
              · exact z
            · trivial
  · trivial
/-- what is looked at ahead: each function is given, or its text keeps to slots -/
structure Ok2 (P : Str → Option Fd) (pr : Prims) : Prop where
  txt : ∀ k f d, pr k f = none → P f = some d → okB d.np d.n d.body = true ∧ d.np ≤ d.n
  prm : ∀ k f F, pr k f = some F → ∀ xs1 xs2 S1 S2 θ, Rel θ S1 S2 → VRels θ xs1 xs2 → SimT θ S1 S2 (run P (k + 1) f xs1 S1) (F xs2 S2)
theorem sim_run {P : Str → Option Fd} {pr : Prims} (O : Ok2 P pr) : ∀ k, SimF (run P k) (run2 P pr k)
  | 0 => fun f xs1 xs2 S1 S2 θ R V => trivial
  | k + 1 => fun f xs1 xs2 S1 S2 θ R V => by
    simp only [run2]
    cases q : pr k f with
    | some F => exact O.prm k f F q xs1 xs2 S1 S2 θ R V
    | none =>
      simp only [run]
      cases h : P f with
      | none => trivial
      | some d =>
        obtain ⟨h1, h2⟩ := O.txt k f d q h
        exact simD (sim_run O k) h1 h2 xs1 xs2 S1 S2 θ R V
/-- the law by slots is the law -/
theorem law_of2 {P : Str → Option Fd} {pr : Prims} (O : Ok2 P pr) (k : Nat) (f : Str) (ns : List Int) (h : ∃ S', run2 P pr k f [.fls (ns.map Val.int)] [] = .ok (.v (.bl true)) S') : ∃ S', run P k f [.fls (ns.map Val.int)] [] = .ok (.v (.bl true)) S' := by
  obtain ⟨S', h⟩ := h
  have fl : (Val.fls (ns.map Val.int)).bel 0 = true := by
    rw [bel_fls]
    exact belL_of fun x hx => by obtain ⟨i, _, rfl⟩ := List.mem_map.mp hx; exact bel_int 0 i
  have s := sim_run O k f _ _ [] [] (fun _ => none) ⟨(fun _ _ _ h => nomatch h), (fun _ _ h => nomatch h), rfl, rfl⟩ (.cons (.flat fl) .nil)
  rw [h] at s
  obtain ⟨a, S1', e, c, _⟩ := s
  obtain ⟨_, rfl⟩ := c
  exact ⟨S1', e⟩
end Fe

/-! Fv5: plain equations of the interpreter by slots -/
namespace Fe
open PySem
def setK (np i : Nat) (env : Env) (r : Rv) (S : Sto) : SR := match r with
  | .t o => if np ≤ i then .ok .nx (env.set i (some (.ref i))) (S.set i o) else .bad
  | .v x => match x.loc with
    | some _ => .bad
    | none => .ok .nx (env.set i (some x)) S
section
variable (np : Nat) (T : Fns) (env : Env) (S : Sto) (a b c : E) (p q : Cs)
@[simp] theorem evS2_set (i : Nat) : evS2 np T (.set i a) env S = (evE T a env S).st env (setK np i env) := by (simp only [evS2] <;> rfl)
@[simp] theorem evS2_ite : evS2 np T (.ite c p q) env S = (evT T c env S).st env fun k S => if k = true then evB2 np T p env S else evB2 np T q env S := by simp only [evS2]
@[simp] theorem evS2_wh : evS2 np T (.wh c p) env S = whL (evT T c) (evB2 np T p) whFuel env S := by simp only [evS2]
@[simp] theorem evS2_for (t : Tg) (it : It) : evS2 np T (.for t it p) env S = (evI T it env S).st env fun src S => forL (evB2 np T p) t src.live src.items env S := by simp only [evS2]
@[simp] theorem evS2_asg (t : Tg) : evS2 np T (.asg t a) env S = evS T (.asg t a) env S := by simp only [evS2]
@[simp] theorem evS2_par (i j : Nat) : evS2 np T (.par i j a b) env S = evS T (.par i j a b) env S := by simp only [evS2]
@[simp] theorem evS2_setIx : evS2 np T (.setIx a b c) env S = evS T (.setIx a b c) env S := by simp only [evS2]
@[simp] theorem evS2_aug (i : Nat) (o : Bop) : evS2 np T (.aug i o a) env S = evS T (.aug i o a) env S := by simp only [evS2]
@[simp] theorem evS2_ex : evS2 np T (.ex a) env S = evS T (.ex a) env S := by simp only [evS2]
@[simp] theorem evS2_ret (e : Eo) : evS2 np T (.ret e) env S = evS T (.ret e) env S := by simp only [evS2]
@[simp] theorem evS2_pass : evS2 np T .pass env S = .ok .nx env S := by simp only [evS2]
@[simp] theorem evS2_cont : evS2 np T .cont env S = .ok .ct env S := by simp only [evS2]
@[simp] theorem evS2_brk : evS2 np T .brk env S = .ok .bk env S := by simp only [evS2]
@[simp] theorem evS2_rse (c m : Str) : evS2 np T (.rse c m) env S = .exc ⟨c, []⟩ env S := by simp only [evS2]
@[simp] theorem evS2_tryE (tb : List (Str × List Str)) (c : Str) (i : Nat) (ifs : List (List Str)) (u v : Str) : evS2 np T (.tryE tb p c i ifs u v) env S = meetE tb c ifs u v (cutX S.length (evB2 np T p env S)) := by simp only [evS2]
@[simp] theorem evS2_tryH (ps : List Str) (c : Str) (i : Nat) (hs : Hl) : evS2 np T (.tryH ps p c i hs) env S = meetH (evH2 np T hs ps i) (cutX S.length (evB2 np T p env S)) := by simp only [evS2]
@[simp] theorem evH2_nil (ps : List Str) (i : Nat) (x : Exn) : evH2 np T .nil ps i x env S = if ps.contains x.cls = true then .exc x env S else .bad := by simp only [evH2]
@[simp] theorem evH2_cons (c : Str) (b : Cs) (r : Hl) (ps : List Str) (i : Nat) (x : Exn) : evH2 np T (.cons c b r) ps i x env S = if x.cls = c then hEnd i (evB2 np T b (env.set i none) S) else evH2 np T r ps i x env S := by simp only [evH2]
@[simp] theorem evB2_nil : evB2 np T .nil env S = .ok .nx env S := by simp only [evB2]
@[simp] theorem evB2_cons (d : C) : evB2 np T (.cons d p) env S = (evS2 np T d env S).bind fun env S => evB2 np T p env S := by simp only [evB2]
@[simp] theorem evB2_kill (is : List Nat) : evB2 np T (.kill is p) env S = evB2 np T p (wipeE env is) (wipeS S is) := by simp only [evB2]
@[simp] theorem setK_t (i : Nat) (o : Ob) (h : np ≤ i) : setK np i env (.t o) S = .ok .nx (env.set i (some (.ref i))) (S.set i o) := by simp [setK, h]
@[simp] theorem setK_v (i : Nat) (x : Val) (h : x.loc = none) : setK np i env (.v x) S = .ok .nx (env.set i (some x)) S := by simp [setK, h]
@[simp] theorem wipeS_nil : wipeS S [] = S := id rfl
@[simp] theorem wipeS_cons (i : Nat) (is : List Nat) : wipeS S (i :: is) = (wipeS S is).set i dmy := id rfl
@[simp] theorem loc_int (i : Int) : (Val.int i).loc = none := id rfl
@[simp] theorem loc_bl (i : Bool) : (Val.bl i).loc = none := id rfl
@[simp] theorem loc_str (i : Str) : (Val.str i).loc = none := id rfl
@[simp] theorem loc_tup (i : List Val) : (Val.tup i).loc = none := id rfl
@[simp] theorem loc_fls (i : List Val) : (Val.fls i).loc = none := id rfl
@[simp] theorem loc_non : Val.non.loc = none := id rfl
@[simp] theorem loc_ref (l : Nat) : (Val.ref l).loc = some l := id rfl
@[simp] theorem bindE_nil (j : Nat) : bindE j [] = [] := id rfl
@[simp] theorem bindE_v (j : Nat) (x : Val) (r : List Val) (h : x.loc = none) : bindE j (x :: r) = some x :: bindE (j + 1) r := by simp [bindE, h]
@[simp] theorem bindE_r (j l : Nat) (r : List Val) : bindE j (.ref l :: r) = some (.ref j) :: bindE (j + 1) r := id rfl
@[simp] theorem bindS_nil : bindS S [] = [] := id rfl
@[simp] theorem bindS_v (x : Val) (r : List Val) (h : x.loc = none) : bindS S (x :: r) = dmy :: bindS S r := by simp [bindS, h]
@[simp] theorem bindS_r (l : Nat) (r : List Val) : bindS S (.ref l :: r) = (S[l]?).getD dmy :: bindS S r := id rfl
@[simp] theorem back_nil (S' : Sto) (j : Nat) : back S' j [] S = S := id rfl
@[simp] theorem back_v (S' : Sto) (j : Nat) (x : Val) (r : List Val) (h : x.loc = none) : back S' j (x :: r) S = back S' (j + 1) r S := by simp [back, h]
@[simp] theorem back_r (S' : Sto) (j l : Nat) (r : List Val) : back S' j (.ref l :: r) S = (back S' (j + 1) r S).set l ((S'[j]?).getD dmy) := id rfl
@[simp] theorem distL_nil : distL [] = true := id rfl
@[simp] theorem distL_v (x : Val) (r : List Val) (h : x.loc = none) : distL (x :: r) = distL r := by simp [distL, h]
@[simp] theorem distL_r (l : Nat) (r : List Val) : distL (.ref l :: r) = ((r.all fun y => decide (y.loc ≠ some l)) && distL r) := id rfl
variable (xs : List Val) (S' : Sto)
@[simp] theorem fin2_v (x : Val) (h : x.loc = none) : fin2 np xs S (.ok (.rt (.v x)) env S') = .ok (.v x) (back S' 0 xs S) := by simp [fin2, h]
@[simp] theorem fin2_t (o : Ob) : fin2 np xs S (.ok (.rt (.t o)) env S') = .ok (.t o) (back S' 0 xs S) := id rfl
@[simp] theorem fin2_nx : fin2 np xs S (.ok .nx env S') = .ok (.v .non) (back S' 0 xs S) := id rfl
@[simp] theorem fin2_exc (x : Exn) : fin2 np xs S (.exc x env S') = .exc x (back S' 0 xs S) := id rfl
theorem fin2_r' (j : Nat) (o : Ob) (h : np ≤ j) (ho : S'[j]? = some o) : fin2 np xs S (.ok (.rt (.v (.ref j))) env S') = .ok (.t o) (back S' 0 xs S) := by simp [fin2, h, ho]
@[simp] theorem fin2_r (j : Nat) : fin2 np xs S (.ok (.rt (.v (.ref j))) env S') = if np ≤ j then match S'[j]? with
    | some o => .ok (.t o) (back S' 0 xs S)
    | none => .bad else .bad := id rfl
@[simp] theorem fin2_ite {d : Prop} [Decidable d] (r1 r2 : SR) : fin2 np xs S (if d then r1 else r2) = if d then fin2 np xs S r1 else fin2 np xs S r2 := by split <;> rfl
end
/-- a call of a function by its text -/
theorem run2_ok {P : Str → Option Fd} {pr : Prims} {f : Str} {d : Fd} (k : Nat) (hp : pr k f = none) (h : P f = some d) (xs : List Val) (S : Sto) (hl : xs.length = d.np) (hd : distL xs = true) :
    run2 P pr (k + 1) f xs S = fin2 d.np xs S (evB2 d.np (run2 P pr k) d.body (bindE 0 xs ++ List.replicate (d.n - xs.length) none) (bindS S xs ++ List.replicate (d.n - xs.length) dmy)) := by
  simp only [run2, hp, h, runD2, hl, hd, and_self, if_true]
theorem run2_pr {P : Str → Option Fd} {pr : Prims} {f : Str} {F : List Val → Sto → Res Rv} (k : Nat) (hp : pr k f = some F) (xs : List Val) (S : Sto) : run2 P pr (k + 1) f xs S = F xs S := by
  simp only [run2, hp]
@[simp] theorem cut_len (x : Val) (n : Nat) (S : Sto) (h : x.loc = none) (hn : S.length = n) : cut n (.v x) S = .ok (.v x) S := by
  refine cut_nr S x n ?_ hn
  cases x <;> first | rfl | cases h
@[simp] theorem cut_lent (o : Ob) (n : Nat) (S : Sto) (hn : S.length = n) : cut n (.t o) S = .ok (.t o) S := by
  subst hn
  unfold cut
  rw [List.take_length]
  split
  · simp only []
    split <;> rfl
  · rfl
/-! ### an object in its slot -/
section
variable (S : Sto) (l : Nat) (i : Int)
@[simp] theorem lstW_rf : lstW S (.v (.ref l)) = match S[l]? with | some (.lst xs) => some xs | _ => none := id rfl
@[simp] theorem lstW_tl (xs : List Val) : lstW S (.t (.lst xs)) = some xs := id rfl
@[simp] theorem lstOf_rf : lstOf S (.v (.ref l)) = match S[l]? with | some (.lst xs) => some xs | _ => none := id rfl
@[simp] theorem lstOf_tl (xs : List Val) : lstOf S (.t (.lst xs)) = some xs := id rfl
@[simp] theorem lstOf_fl' (xs : List Val) : lstOf S (.v (.fls xs)) = some xs := id rfl
@[simp] theorem seqOf_rf : seqOf S (.v (.ref l)) = match S[l]? with | some (.lst xs) => some xs | _ => none := id rfl
@[simp] theorem seqOf_tl (xs : List Val) : seqOf S (.t (.lst xs)) = some xs := id rfl
@[simp] theorem seqOf_fl' (xs : List Val) : seqOf S (.v (.fls xs)) = some xs := id rfl
@[simp] theorem seqOf_tp (xs : List Val) : seqOf S (.v (.tup xs)) = some xs := id rfl
@[simp] theorem dicW_rf : dicW S (.v (.ref l)) = match S[l]? with | some (.dic xs) => some xs | _ => none := id rfl
@[simp] theorem dicW_tl (xs : List Val) : dicW S (.t (.lst xs)) = none := id rfl
@[simp] theorem dicW_td (xs : List (Val × Val)) : dicW S (.t (.dic xs)) = some xs := id rfl
theorem ix_lst {S : Sto} {l : Nat} {xs : List Val} (h : S[l]? = some (.lst xs)) (i : Int) : ixR S (.v (.ref l)) i = L2.atI xs i := by simp [ixR, h]
@[simp] theorem ix_rf : ixR S (.v (.ref l)) i = match S[l]? with | some (.lst xs) => L2.atI xs i | some (.dic kvs) => dval (.int i) kvs | _ => none := by
  simp only [ixR, dicW_rf, seqOf_rf]
  cases S[l]? with
  | none => rfl
  | some o => cases o <;> rfl
@[simp] theorem len_rf : blt1 S .len (.v (.ref l)) = (match S[l]? with | some (.lst xs) => some (.v (.int xs.length)) | _ => none) := by
  simp only [blt1, seqOf_rf]
  cases S[l]? with
  | none => rfl
  | some o => cases o <;> rfl
@[simp] theorem tuple_rf : blt1 S .tuple (.v (.ref l)) = (match S[l]? with | some (.lst xs) => some (.v (.tup xs)) | _ => none) := by
  simp only [blt1, seqOf_rf]
  cases S[l]? with
  | none => rfl
  | some o => cases o <;> rfl
@[simp] theorem src_rf : srcOf S (.v (.ref l)) = match S[l]? with | some (.lst xs) => some ⟨xs, [(l, xs)]⟩ | _ => none := id rfl
@[simp] theorem isLst_rf : isLst S (.v (.ref l)) = (match S[l]? with | some (.lst _) => true | _ => false) := by
  simp only [isLst, lstOf_rf]
  cases S[l]? with
  | none => rfl
  | some o => cases o <;> rfl
@[simp] theorem isTup_rf : isTup (.v (.ref l)) = false := id rfl
@[simp] theorem isTup_fl (xs : List Val) : isTup (.v (.fls xs)) = false := id rfl
@[simp] theorem isTup_tl (o : Ob) : isTup (.t o) = false := id rfl
@[simp] theorem isLst_tp (xs : List Val) : isLst S (.v (.tup xs)) = false := id rfl
@[simp] theorem sl_rf (lo hi : Option Int) : slR S (.v (.ref l)) lo hi = (match S[l]? with | some (.lst xs) => some (.t (.lst (cutL xs lo hi))) | _ => none) := by
  simp only [slR, lstOf_rf]
  cases S[l]? with
  | none => rfl
  | some o => cases o <;> rfl
@[simp] theorem sl_fl (xs : List Val) (lo hi : Option Int) : slR S (.v (.fls xs)) lo hi = some (.t (.lst (cutL xs lo hi))) := id rfl
@[simp] theorem sl_tl (xs : List Val) (lo hi : Option Int) : slR S (.t (.lst xs)) lo hi = some (.t (.lst (cutL xs lo hi))) := id rfl
@[simp] theorem sl_tp (xs : List Val) (lo hi : Option Int) : slR S (.v (.tup xs)) lo hi = some (.v (.tup (cutL xs lo hi))) := id rfl
@[simp] theorem isi_rf (t : Ty) : isiR S (.v (.ref l)) t = (match S[l]? with | some (.lst _) => some (isiB .lst t) | some (.dic _) => some (isiB .dic t) | _ => none) := by
  simp only [isiR, clsOf]
  cases S[l]? with
  | none => rfl
  | some o => cases o <;> rfl
@[simp] theorem setOb_li (xs : List Val) (x : Val) : setOb (.int i) x (.lst xs) = (L2.ixN xs.length i).map fun j => .lst (xs.set j x) := id rfl
@[simp] theorem pop_nil (xs : List Val) (x : Val) : metL .pop (xs ++ [x]) [] = some (.v x, xs) := by simp [metL]
theorem app_ok {xs : List Val} (h : xs.length < 16000000) (x : Val) : metL .append xs [x] = some (.v .non, xs ++ [x]) := by
  have : xs.length < sizeLine := Nat.lt_of_lt_of_le h (by decide)
  simp [metL, this]
end
@[simp] theorem ixN0 (n : Nat) : L2.ixN (n + 1) 0 = some 0 := by simp [L2.ixN]
@[simp] theorem ixN1 (n : Nat) : L2.ixN (n + 2) 1 = some 1 := by
  unfold L2.ixN
  rw [if_pos (by decide), if_pos (by omega)]
  rfl
/-! ### loops -/
/-- a loop that steps from state to state -/
theorem forL_fold {σ α : Type} (body : Env → Sto → SR) (tg : Tg) (enc : α → Val) (mk : σ → Env × Sto) (step : σ → α → σ) (G : σ → List α → Prop)
    (hb : ∀ s x r, G s (x :: r) → ∃ env1, asgT tg (enc x) (mk s).1 = some env1 ∧ body env1 (mk s).2 = .ok .nx (mk (step s x)).1 (mk (step s x)).2 ∧ G (step s x) r) :
    ∀ (xs : List α) (s : σ), G s xs → forL body tg [] (xs.map enc) (mk s).1 (mk s).2 = .ok .nx (mk (xs.foldl step s)).1 (mk (xs.foldl step s)).2
  | [], s, _ => by simp [forL]
  | x :: xs, s, h => by
    obtain ⟨env1, h1, h2, h3⟩ := hb s x xs h
    simp only [List.map_cons, forL, guardS_nil', h1, h2, List.foldl_cons]
    exact forL_fold body tg enc mk step G hb xs (step s x) h3
/-- the same over a list that stands in a slot -/
theorem forL_live {σ α : Type} (body : Env → Sto → SR) (tg : Tg) (enc : α → Val) (mk : σ → Env × Sto) (step : σ → α → σ) (G : σ → List α → Prop) (live : List (Nat × List Val)) (hlv : ∀ s, liveOk (mk s).2 live)
    (hb : ∀ s x r, G s (x :: r) → ∃ env1, asgT tg (enc x) (mk s).1 = some env1 ∧ body env1 (mk s).2 = .ok .nx (mk (step s x)).1 (mk (step s x)).2 ∧ G (step s x) r) :
    ∀ (xs : List α) (s : σ), G s xs → forL body tg live (xs.map enc) (mk s).1 (mk s).2 = .ok .nx (mk (xs.foldl step s)).1 (mk (xs.foldl step s)).2
  | [], s, _ => by simp [forL, guardS_pos _ (hlv s)]
  | x :: xs, s, h => by
    obtain ⟨env1, h1, h2, h3⟩ := hb s x xs h
    simp only [List.map_cons, forL, guardS_pos _ (hlv s), h1, h2, List.foldl_cons]
    exact forL_live body tg enc mk step G live hlv hb xs (step s x) h3
/-- a loop whose turns all leave the state, or leave the function -/
theorem forL_all {α : Type} (body : Env → Sto → SR) (tg : Tg) (enc : α → Val) (env : Env) (S : Sto) (live : List (Nat × List Val)) (hlv : liveOk S live) (xs : List α)
    (hb : ∀ x ∈ xs, ∃ env1, asgT tg (enc x) env = some env1 ∧ body env1 S = .ok .nx env S) : forL body tg live (xs.map enc) env S = .ok .nx env S := by
  induction xs with
  | nil => simp [forL, guardS_pos _ hlv]
  | cons x xs ih =>
    obtain ⟨env1, h1, h2⟩ := hb x (by simp)
    simp only [List.map_cons, forL, guardS_pos _ hlv, h1, h2]
    exact ih fun y hy => hb y (by simp [hy])
/-- a while by a measure -/
theorem whL_meas {σ : Type} (cond : Env → Sto → Res Bool) (body : Env → Sto → SR) (mk : σ → Env × Sto) (step : σ → σ) (fin : σ → σ) (m : σ → Nat) (G : σ → Prop)
    (hc : ∀ s, G s → (m s = 0 ∧ cond (mk s).1 (mk s).2 = .ok false (mk s).2 ∧ fin s = s) ∨ (0 < m s ∧ cond (mk s).1 (mk s).2 = .ok true (mk s).2 ∧ body (mk s).1 (mk s).2 = .ok .nx (mk (step s)).1 (mk (step s)).2 ∧ G (step s) ∧ m (step s) < m s ∧ fin s = fin (step s))) :
    ∀ (k : Nat) (s : σ), G s → m s < k → whL cond body k (mk s).1 (mk s).2 = .ok .nx (mk (fin s)).1 (mk (fin s)).2
  | 0, s, _, h => by omega
  | k + 1, s, hG, h => by
    rcases hc s hG with ⟨h1, h2, h3⟩ | ⟨h1, h2, h3, h4, h5, h6⟩
    · simp [whL, h2, h3]
    · simp only [whL, h2, st_ok, if_true, h3, h6]
      exact whL_meas cond body mk step fin m G hc k (step s) h4 (by omega)
end Fe

/-! Gva: what the laws of groves draw by -/
namespace Fe
open PySem
def g_purse : Fd := ⟨2, 5, (.cons (.set 2 (.cst (.int 0))) (.cons (.ite (.cmp .lt (.var 1) (.blt .len (.cons (.var 0) .nil))) (.cons (.set 2 (.ix (.var 0) (.var 1))) .nil) .nil) (.cons (.set 3 (.cst (.int 0))) (.cons (.ite (.or (.cmp .ge (.var 2) (.bin .pow (.cst (.int 10)) (.cst (.int 18)))) (.cmp .lt (.var 2) (.cst (.int 0)))) (.cons (.set 3 (.bin .mod (.blt .abs (.cons (.var 2) .nil)) (.bin .mul (.bin .mul (.bin .mul (.bin .mul (.bin .pow (.cst (.int 10)) (.cst (.int 60))) (.bin .pow (.cst (.int 10)) (.cst (.int 60)))) (.bin .pow (.cst (.int 10)) (.cst (.int 60)))) (.bin .pow (.cst (.int 10)) (.cst (.int 60)))) (.bin .pow (.cst (.int 10)) (.cst (.int 60)))))) .nil) .nil) (.cons (.set 4 (.bin .mul (.bin .add (.bin .mod (.var 2) (.cst (.int 18446744073709551557))) (.cst (.int 1))) (.bin .add (.bin .add (.bin .mul (.bin .mul (.cst (.int 7)) (.var 1)) (.var 1)) (.bin .mul (.cst (.int 2)) (.var 1))) (.cst (.int 3))))) (.cons (.ret (.some (.lst (.cons (.fz (.var 3)) (.cons (.fz (.bin .add (.bin .mod (.bin .mul (.var 4) (.cst (.int 2654435761))) (.cst (.int 18446744073709551557))) (.cst (.int 1)))) .nil))))) .nil))))))⟩
def g_take : Fd := ⟨2, 3, (.cons (.ite (.cmp .gt (.ix (.var 0) (.cst (.int 0))) (.cst (.int 0))) (.cons (.set 2 (.bin .mod (.ix (.var 0) (.cst (.int 0))) (.var 1))) (.cons (.setIx (.var 0) (.cst (.int 0)) (.bin .fdiv (.ix (.var 0) (.cst (.int 0))) (.var 1))) (.cons (.ret (.some (.var 2))) .nil))) .nil) (.cons (.setIx (.var 0) (.cst (.int 1)) (.fz (.bin .add (.bin .mod (.bin .add (.bin .mul (.ix (.var 0) (.cst (.int 1))) (.cst (.int 5851302741139))) (.cst (.int 977))) (.cst (.int 18446744073709551557))) (.cst (.int 1))))) (.cons (.ret (.some (.bin .mod (.bin .fdiv (.bin .pow (.ix (.var 0) (.cst (.int 1))) (.cst (.int 4))) (.cst (.int 65537))) (.var 1)))) .nil)))⟩
def g_names_c1 : E := (.comp [10] (.n 10) (.rg1 (.var 3)) .none (.fz (.sl (.var 2) .none (.some (.bin .add (.var 10) (.cst (.int 1)))))))
def g_names_c2 : E := (.comp [11] (.n 11) (.e (.var 9)) .none (.fz (.bin .add (.bin .add (.sl (.var 2) .none (.some (.var 7))) (.var 11)) (.sl (.var 2) (.some (.bin .add (.var 7) (.cst (.int 1)))) (.some (.var 6))))))
def g_names_c3 : E := (.comp [10] (.n 10) (.rg1 (.var 3)) .none (.ix (.var 1) (.bin .mod (.bin .add (.var 8) (.bin .mul (.cst (.int 3)) (.var 10))) (.cst (.int 26)))))
def g_names_c4 : E := (.comp [10] (.n 10) (.rg1 (.cst (.int 8))) .none (.ix (.var 1) (.call "_law_take" (.cons (.var 0) (.cons (.cst (.int 26)) .nil)))))
def g_names : Fd := ⟨1, 12, (.cons (.set 1 (.cst (.str "abcdefghijklmnopqrstuvwxyz"))) (.cons (.set 2 (.join "" g_names_c4)) (.cons (.set 3 (.fz (.bin .add (.cst (.int 1)) (.call "_law_take" (.cons (.var 0) (.cons (.cst (.int 8)) .nil)))))) (.cons (.set 4 (.fz (.call "_law_take" (.cons (.var 0) (.cons (.var 3) .nil))))) (.cons (.ite (.cmp .eq (.call "_law_take" (.cons (.var 0) (.cons (.cst (.int 3)) .nil))) (.cst (.int 0))) (.cons (.set 5 g_names_c1) .nil) (.cons (.set 6 (.fz (.bin .add (.cst (.int 1)) (.call "_law_take" (.cons (.var 0) (.cons (.cst (.int 8)) .nil)))))) (.cons (.set 7 (.fz (.call "_law_take" (.cons (.var 0) (.cons (.var 6) .nil))))) (.cons (.set 8 (.fz (.call "_law_take" (.cons (.var 0) (.cons (.cst (.int 26)) .nil))))) (.cons (.set 9 g_names_c3) (.cons (.set 5 g_names_c2) .nil)))))) (.cons (.ret (.some (.bin .add (.sl (.var 5) (.some (.var 4)) .none) (.sl (.var 5) .none (.some (.var 4)))))) .nil))))))⟩
def g_tidy_l1 : Cs := (.cons (.ite (.and (.cmp .ne (.var 1) (.lst .nil)) (.cmp .eq (.ix (.ix (.var 1) (.neg (.cst (.int 1)))) (.cst (.int 0))) (.var 2))) (.cons (.set 3 (.fz (.bin .add (.var 3) (.ix (.met .pop (.var 1) .nil) (.cst (.int 1)))))) .nil) .nil) (.cons (.ex (.met .append (.var 1) (.cons (.tup (.cons (.fz (.var 2)) (.cons (.fz (.var 3)) .nil))) .nil))) (.kill [2, 3] .nil)))
def g_tidy : Fd := ⟨1, 4, (.cons (.set 1 (.lst .nil)) (.cons (.for (.t [(.n 2), (.n 3)]) (.e (.blt .sorted (.cons (.var 0) .nil))) g_tidy_l1) (.kill [2, 3] (.cons (.ret (.some (.blt .tuple (.cons (.var 1) .nil)))) .nil))))⟩
def g_grove : Fd := ⟨6, 15, (.cons (.set 6 (.lst .nil)) (.cons (.set 7 (.lst .nil)) (.cons (.for (.n 8) (.rg1 (.var 2)) (.cons (.set 10 (.call "_law_purse" (.cons (.var 0) (.cons (.bin .add (.var 1) (.var 8)) .nil)))) (.cons (.set 11 (.bin .sub (.call "_law_take" (.cons (.var 10) (.cons (.bin .add (.var 8) (.cst (.int 1))) .nil))) (.cst (.int 1)))) (.cons (.ite (.and (.cmp .ge (.var 11) (.cst (.int 0))) (.cmp .ge (.ix (.var 7) (.var 11)) (.var 5))) (.cons (.set 11 (.neg (.cst (.int 1)))) .nil) .nil) (.cons (.set 12 (.ix (.var 3) (.call "_law_take" (.cons (.var 10) (.cons (.blt .len (.cons (.var 3) .nil)) .nil))))) (.cons (.set 13 (.bin .add (.cst (.int 1)) (.call "_law_take" (.cons (.var 10) (.cons (.ix (.lst (.cons (.cst (.int 1)) (.cons (.cst (.int 1)) (.cons (.cst (.int 3)) (.cons (.var 4) .nil))))) (.call "_law_take" (.cons (.var 10) (.cons (.cst (.int 4)) .nil)))) .nil))))) (.cons (.ex (.met .append (.var 6) (.cons (.tup (.cons (.var 11) (.cons (.var 12) (.cons (.var 13) .nil)))) .nil))) (.cons (.ex (.met .append (.var 7) (.cons (.bin .add (.cst (.int 1)) (.ix (.bin .add (.lst (.cons (.cst (.int 0)) .nil)) (.var 7)) (.bin .add (.var 11) (.cst (.int 1))))) .nil))) .nil)))))))) (.cons (.set 9 (.comp [8] (.n 8) (.rg1 (.bin .add (.var 2) (.cst (.int 1)))) .none (.lst .nil))) (.cons (.for (.n 8) (.rvr (.var 2)) (.cons (.asg (.t [(.n 11), (.n 12), (.n 13)]) (.ix (.var 6) (.var 8))) (.cons (.set 14 (.tup (.cons (.var 12) (.cons (.call "_law_tidy" (.cons (.ix (.var 9) (.var 8)) .nil)) .nil)))) (.cons (.ex (.met .append (.ix (.var 9) (.var 11)) (.cons (.tup (.cons (.var 14) (.cons (.var 13) .nil))) .nil))) .nil)))) (.cons (.ret (.some (.call "_law_tidy" (.cons (.ix (.var 9) (.var 2)) .nil)))) .nil))))))⟩
def PG (a b : Int) : Prop := 0 ≤ a ∧ 1 ≤ b ∧ b ≤ 18446744073709551557
theorem divOk_big {m : Int} (h : 0 < m) (h' : m ≤ 10 ^ 60) : divOk m = true := by
  have h2 : m.natAbs.log2 < 9000 := by
    have : m.natAbs ≠ 0 := by omega
    have e : (10 : Int) ^ 60 < 2 ^ 200 := by decide
    have h3 : m.natAbs.log2 < 200 := (Nat.log2_lt this).mpr (by omega)
    omega
  simp [divOk, h, h2]
theorem fdiv_big (S : Sto) (a : Int) {m : Int} (h : 0 < m) (h' : m ≤ 10 ^ 60) (ha : 0 ≤ a) : binR S .fdiv (.v (.int a)) (.v (.int m)) = some (.v (.int (a / m))) := by
  simp only [binR, divOk_big h h', if_true, Int.fdiv_eq_ediv_of_nonneg a (Int.le_of_lt h)]
theorem mul_sm (S : Sto) (x y : Int) (h : -(2 ^ 60) < y) (h' : y < 2 ^ 60) : binR S .mul (.v (.int x)) (.v (.int y)) = some (.v (.int (x * y))) := bin_mul S x y (mulOk_r _ _ h h')
section
variable {P : Str → Option Fd} (k : Nat) (S : Sto)
/-- what a purse holds -/
structure Pu where
  a : Int
  b : Int
  h : PG a b
def Pu.ob (p : Pu) : Ob := pu p.a p.b
def Pu.b' (p : Pu) : Int := (p.b * 5851302741139 + 977) % 18446744073709551557 + 1
/-- what is drawn -/
def Pu.dr (p : Pu) (m : Int) : Int := if 0 < p.a then p.a % m else p.b' ^ 4 / 65537 % m
theorem Pu.b'_pg (p : Pu) : PG p.a p.b' := by
  have h1 := Int.emod_nonneg (p.b * 5851302741139 + 977) (b := 18446744073709551557) (by decide)
  have h2 := Int.emod_lt_of_pos (p.b * 5851302741139 + 977) (b := 18446744073709551557) (by decide)
  exact ⟨p.h.1, by unfold Pu.b'; omega, by unfold Pu.b'; omega⟩
/-- what is left -/
def Pu.nx (p : Pu) (m : Int) : Pu := if 0 < p.a then ⟨p.a / (m.natAbs : Int), p.b, ⟨Int.ediv_nonneg p.h.1 (by omega), p.h.2⟩⟩ else ⟨p.a, p.b', p.b'_pg⟩
theorem Pu.dr_lt (p : Pu) {m : Int} (h : 0 < m) : 0 ≤ p.dr m ∧ p.dr m < m := by
  unfold Pu.dr
  split <;> exact ⟨Int.emod_nonneg _ (by omega), Int.emod_lt_of_pos _ h⟩
@[simp] theorem Pu.ob_fl (p : Pu) : p.ob.bel 0 = true := by simp [Pu.ob, pu, Ob.bel, Val.belL, Val.bel]
theorem gtake_run (h : P "_law_take" = some g_take) {l : Nat} {p : Pu} (hS : S[l]? = some p.ob) (m : Int) (hm : 0 < m) (hm' : m ≤ 10 ^ 60) : run P (k + 1) "_law_take" [.ref l, .int m] S = .ok (.v (.int (p.dr m))) (S.set l (p.nx m).ob) := by
  unfold Pu.ob pu at hS
  have hmm : (m.natAbs : Int) = m := by omega
  by_cases ha : 0 < p.a
  · have m1 := bin_mod S p.a m hm
    have m2 := fdiv_big S p.a hm hm' (by omega)
    rw [run_ok h _ _ _ rfl]
    simp [g_take, startE, hS, ha, m1, m2, set0 hS, pu, Pu.ob, Pu.dr, Pu.nx, hmm]
  · have hS2 : (S.set l (pu p.a p.b'))[l]? = some (.lst [.int p.a, .int p.b']) := set_got hS _
    have m1 := mul_sm S p.b 5851302741139 (by decide) (by decide)
    have m2 := bin_mod S (p.b * 5851302741139 + 977) 18446744073709551557 (by decide)
    have s1 : setIxR l 1 (.int ((p.b * 5851302741139 + 977) % 18446744073709551557 + 1)) S = some (S.set l (pu p.a p.b')) := set1 hS
    have pg := p.b'_pg
    have pk : powOk p.b' 4 = true := by
      simp only [powOk, Bool.and_eq_true, decide_eq_true_eq]
      refine ⟨⟨by decide, by decide⟩, ?_⟩
      have := pg.2
      omega
    have m3 : binR (S.set l (pu p.a p.b')) .pow (.v (.int p.b')) (.v (.int 4)) = some (.v (.int (p.b' ^ 4))) := by
      simp only [binR, pk, if_true]
      rfl
    have hb4 : 0 ≤ p.b' ^ 4 := Int.pow_nonneg (by have := pg.2; omega)
    have m4 := fdiv_big (S.set l (pu p.a p.b')) (p.b' ^ 4) (m := 65537) (by decide) (by decide) hb4
    have m5 := bin_mod (S.set l (pu p.a p.b')) (p.b' ^ 4 / 65537) m hm
    rw [run_ok h _ _ _ rfl]
    simp [g_take, startE, hS, hS2, ha, m1, m2, s1, m3, m4, m5, Pu.ob, Pu.dr, Pu.nx]
def B60 : Int := 10 ^ 60
def B300 : Int := 10 ^ 300
theorem B300_pos : 0 < B300 := by decide
theorem p60 (S : Sto) : binR S .pow (.v (.int 10)) (.v (.int 60)) = some (.v (.int B60)) := by
  have h : powOk 10 60 = true := by decide
  simp only [binR, h, if_true]
  rfl
def ten300 : E := .bin .mul (.bin .mul (.bin .mul (.bin .mul (.bin .pow (.cst (.int 10)) (.cst (.int 60))) (.bin .pow (.cst (.int 10)) (.cst (.int 60)))) (.bin .pow (.cst (.int 10)) (.cst (.int 60)))) (.bin .pow (.cst (.int 10)) (.cst (.int 60)))) (.bin .pow (.cst (.int 10)) (.cst (.int 60)))
theorem e300 (T : Fns) (env : Env) (S : Sto) : evE T ten300 env S = .ok (.v (.int B300)) S := by
  have q := p60 S
  have m1 : binR S .mul (.v (.int B60)) (.v (.int B60)) = some (.v (.int (B60 * B60))) := bin_mul S _ _ (by decide)
  have m2 : binR S .mul (.v (.int (B60 * B60))) (.v (.int B60)) = some (.v (.int (B60 * B60 * B60))) := bin_mul S _ _ (by decide)
  have m3 : binR S .mul (.v (.int (B60 * B60 * B60))) (.v (.int B60)) = some (.v (.int (B60 * B60 * B60 * B60))) := bin_mul S _ _ (by decide)
  have m4 : binR S .mul (.v (.int (B60 * B60 * B60 * B60))) (.v (.int B60)) = some (.v (.int B300)) := by
    rw [bin_mul S _ _ (by decide)]
    have e : B60 * B60 * B60 * B60 * B60 = B300 := by decide
    rw [e]
  simp only [ten300, evE_bin, evE_cst, bind_ok, q, of_some, m1, m2, m3, m4]
theorem p58 (S : Sto) : binR S .pow (.v (.int 10)) (.v (.int 58)) = some (.v (.int (10 ^ 58))) := by
  have h : powOk 10 58 = true := by decide
  simp only [binR, h, if_true]
  rfl
def cellF (ns : List Int) (i : Nat) : Int := (ns[i]?).getD 0
def digF (c : Int) : Int := if 1000000000000000000 ≤ c ∨ c < 0 then (if c < 0 then -c else c) % B300 else 0
def mixF (c : Int) (i : Nat) : Int := (c % 18446744073709551557 + 1) * (7 * (i : Int) * i + 2 * i + 3) * 2654435761 % 18446744073709551557 + 1
theorem pz_pg (c : Int) (i : Nat) : PG (digF c) (mixF c i) := by
  have h1 := Int.emod_nonneg ((c % 18446744073709551557 + 1) * (7 * (i : Int) * i + 2 * i + 3) * 2654435761) (b := 18446744073709551557) (by decide)
  have h2 := Int.emod_lt_of_pos ((c % 18446744073709551557 + 1) * (7 * (i : Int) * i + 2 * i + 3) * 2654435761) (b := 18446744073709551557) (by decide)
  refine ⟨?_, by unfold mixF; omega, by unfold mixF; omega⟩
  unfold digF
  split
  · exact Int.emod_nonneg _ (by decide)
  · exact Int.le_refl _
/-- the purse of a cell -/
def pz (ns : List Int) (i : Nat) : Pu := ⟨digF (cellF ns i), mixF (cellF ns i) i, pz_pg _ _⟩
theorem gpurse_run (h : P "_law_purse" = some g_purse) (ns : List Int) (i : Nat) (hi : i ≤ 10000) : run P (k + 1) "_law_purse" [.fls (ns.map Val.int), .int i] S = .ok (.t (pz ns i).ob) S := by
  let c : Int := cellF ns i
  have hc : evS (run P k) (nthCs g_purse.body 1) [some (.fls (ns.map Val.int)), some (.int i), some (.int 0), none, none] S = .ok .nx [some (.fls (ns.map Val.int)), some (.int i), some (.int c), none, none] S := by
    by_cases hi : i < ns.length
    · have g : (ns.map Val.int)[i]? = some (.int ns[i]) := by simp [hi]
      have g' := L2.atI_nat g
      have e : c = ns[i] := by simp [c, cellF, hi]
      rw [e]
      simp [nthCs, g_purse, hi, g']
    · have e : c = 0 := by simp [c, cellF, hi]
      rw [e]
      simp [nthCs, g_purse, hi]
  have p18 := pow18 S
  have hd : evS (run P k) (nthCs g_purse.body 3) [some (.fls (ns.map Val.int)), some (.int i), some (.int c), some (.int 0), none] S = .ok .nx [some (.fls (ns.map Val.int)), some (.int i), some (.int c), some (.int (digF c)), none] S := by
    have md := bin_mod S (if c < 0 then -c else c) B300 B300_pos
    have hb3 : nthCs g_purse.body 3 = .ite (.or (.cmp .ge (.var 2) (.bin .pow (.cst (.int 10)) (.cst (.int 18)))) (.cmp .lt (.var 2) (.cst (.int 0)))) (.cons (.set 3 (.bin .mod (.blt .abs (.cons (.var 2) .nil)) ten300)) .nil) .nil := rfl
    rw [hb3]
    by_cases cc : 1000000000000000000 ≤ c ∨ c < 0
    · have T : evT (run P k) (.or (.cmp .ge (.var 2) (.bin .pow (.cst (.int 10)) (.cst (.int 18)))) (.cmp .lt (.var 2) (.cst (.int 0)))) [some (.fls (ns.map Val.int)), some (.int i), some (.int c), some (.int 0), none] S = .ok true S := by
        by_cases c1 : 1000000000000000000 ≤ c
        · simp [p18, c1]
        · have c2 : c < 0 := by omega
          simp [p18, c1, c2]
      simp only [evS_ite, T, st_ok, if_true, evB_cons, evS_set, evE_bin, evE_blt, evR_cons, evR_nil, evE_var, List.getElem?_cons_succ, List.getElem?_cons_zero, bind_ok, blt_one, e300]
      simp [md, digF, cc]
    · have c1 : ¬ 1000000000000000000 ≤ c := fun h => cc (.inl h)
      have c2 : ¬ c < 0 := fun h => cc (.inr h)
      simp [p18, c1, c2, digF]
  have n1 := bin_mod S c 18446744073709551557 (by decide)
  have n2 := mul_sm S 7 i (by omega) (by omega)
  have n3 := mul_sm S (7 * (i : Int)) i (by omega) (by omega)
  have n4 := mul_sm S 2 i (by omega) (by omega)
  have hii : 7 * (i : Int) * i + 2 * i + 3 < 2 ^ 60 ∧ 0 ≤ 7 * (i : Int) * i + 2 * i + 3 := by
    have h1 : (i : Int) ≤ 10000 := by omega
    have h2 : 7 * (i : Int) * i ≤ 7 * 10000 * 10000 := by
      have : 7 * (i : Int) * i ≤ 7 * 10000 * i := Int.mul_le_mul_of_nonneg_right (by omega) (by omega)
      have : 7 * 10000 * (i : Int) ≤ 7 * 10000 * 10000 := by omega
      omega
    have h3 : 0 ≤ 7 * (i : Int) * i := Int.mul_nonneg (by omega) (by omega)
    omega
  have n5 := mul_sm S (c % 18446744073709551557 + 1) (7 * (i : Int) * i + 2 * i + 3) (by omega) hii.1
  let z : Int := (c % 18446744073709551557 + 1) * (7 * (i : Int) * i + 2 * i + 3)
  have n6 := mul_sm S z 2654435761 (by decide) (by decide)
  have n7 := bin_mod S (z * 2654435761) 18446744073709551557 (by decide)
  have hb : g_purse.body = .cons (.set 2 (.cst (.int 0))) (.cons (nthCs g_purse.body 1) (.cons (nthCs g_purse.body 2) (.cons (nthCs g_purse.body 3) (.cons (nthCs g_purse.body 4) (.cons (nthCs g_purse.body 5) .nil))))) := rfl
  have hst : startE g_purse.n [.fls (ns.map Val.int), .int i] = [some (.fls (ns.map Val.int)), some (.int i), none, none, none] := rfl
  have s0 : evS (run P k) (.set 2 (.cst (.int 0))) [some (.fls (ns.map Val.int)), some (.int i), none, none, none] S = .ok .nx [some (.fls (ns.map Val.int)), some (.int i), some (.int 0), none, none] S := by simp
  rw [run_ok h _ _ _ rfl, hb, hst, evB_cons, s0, sbind_nx, evB_cons, hc, sbind_nx]
  have s2 : evS (run P k) (nthCs g_purse.body 2) [some (.fls (ns.map Val.int)), some (.int i), some (.int c), none, none] S = .ok .nx [some (.fls (ns.map Val.int)), some (.int i), some (.int c), some (.int 0), none] S := by simp [nthCs, g_purse]
  rw [evB_cons, s2, sbind_nx, evB_cons, hd, sbind_nx]
  simp [nthCs, g_purse, n1, n2, n3, n4, n5, n6, n7, pu, z, Pu.ob, pz, mixF, c]
end
end Fe

/-! Gvb: purse, take, names by slots -/
namespace Fe
open PySem
section
variable {P : Str → Option Fd} {pr : Prims} (k : Nat) (S : Sto)
theorem take2 (hp : pr k "_law_take" = none) (h : P "_law_take" = some g_take) {l : Nat} {p : Pu} (hS : S[l]? = some p.ob) (m : Int) (hm : 0 < m) (hm' : m ≤ 10 ^ 60) : run2 P pr (k + 1) "_law_take" [.ref l, .int m] S = .ok (.v (.int (p.dr m))) (S.set l (p.nx m).ob) := by
  have hmm : (m.natAbs : Int) = m := by omega
  rw [run2_ok k hp h _ _ rfl (by simp)]
  simp only [bindE_r, bindE_v, loc_int, bindE_nil, bindS_r, bindS_v, bindS_nil, hS, Option.getD_some]
  by_cases ha : 0 < p.a
  · have m1 := fun S => bin_mod S p.a m hm
    have m2 := fun S => fdiv_big S p.a hm hm' (by omega)
    simp [g_take, Pu.ob, pu, ha, m1, m2, Pu.dr, Pu.nx, hmm, setIxR_eq, List.replicate]
  · have m1 := fun S => mul_sm S p.b 5851302741139 (by decide) (by decide)
    have m2 := fun S => bin_mod S (p.b * 5851302741139 + 977) 18446744073709551557 (by decide)
    have pg := p.b'_pg
    have eb : (p.b * 5851302741139 + 977) % 18446744073709551557 + 1 = p.b' := rfl
    have pk : powOk p.b' 4 = true := by
      simp only [powOk, Bool.and_eq_true, decide_eq_true_eq]
      refine ⟨⟨by decide, by decide⟩, ?_⟩
      have := pg.2
      omega
    have m3 : ∀ S, binR S .pow (.v (.int p.b')) (.v (.int 4)) = some (.v (.int (p.b' ^ 4))) := fun S => by
      simp only [binR, pk, if_true]
      rfl
    have hb4 : 0 ≤ p.b' ^ 4 := Int.pow_nonneg (by have := pg.2; omega)
    have m4 := fun S => fdiv_big S (p.b' ^ 4) (m := 65537) (by decide) (by decide) hb4
    have m5 := fun S => bin_mod S (p.b' ^ 4 / 65537) m hm
    simp [g_take, Pu.ob, pu, ha, m1, m2, eb, m3, m4, m5, Pu.dr, Pu.nx, setIxR_eq, List.replicate]
theorem purse2 (hp : pr k "_law_purse" = none) (h : P "_law_purse" = some g_purse) (ns : List Int) (i : Nat) (hi : i ≤ 10000) : run2 P pr (k + 1) "_law_purse" [.fls (ns.map Val.int), .int i] S = .ok (.t (pz ns i).ob) S := by
  let c : Int := cellF ns i
  let T := run2 P pr k
  let Z : Sto := [dmy, dmy, dmy, dmy, dmy]
  have hc : evS2 2 T (nthCs g_purse.body 1) [some (.fls (ns.map Val.int)), some (.int i), some (.int 0), none, none] Z = .ok .nx [some (.fls (ns.map Val.int)), some (.int i), some (.int c), none, none] Z := by
    by_cases hi : i < ns.length
    · have g : (ns.map Val.int)[i]? = some (.int ns[i]) := by simp [hi]
      have g' := L2.atI_nat g
      have e : c = ns[i] := by simp [c, cellF, hi]
      rw [e]
      simp [nthCs, g_purse, hi, g']
    · have e : c = 0 := by simp [c, cellF, hi]
      rw [e]
      simp [nthCs, g_purse, hi]
  have p18 := pow18 Z
  have hd : evS2 2 T (nthCs g_purse.body 3) [some (.fls (ns.map Val.int)), some (.int i), some (.int c), some (.int 0), none] Z = .ok .nx [some (.fls (ns.map Val.int)), some (.int i), some (.int c), some (.int (digF c)), none] Z := by
    have md := bin_mod Z (if c < 0 then -c else c) B300 B300_pos
    have hb3 : nthCs g_purse.body 3 = .ite (.or (.cmp .ge (.var 2) (.bin .pow (.cst (.int 10)) (.cst (.int 18)))) (.cmp .lt (.var 2) (.cst (.int 0)))) (.cons (.set 3 (.bin .mod (.blt .abs (.cons (.var 2) .nil)) ten300)) .nil) .nil := rfl
    rw [hb3]
    by_cases cc : 1000000000000000000 ≤ c ∨ c < 0
    · have T' : evT T (.or (.cmp .ge (.var 2) (.bin .pow (.cst (.int 10)) (.cst (.int 18)))) (.cmp .lt (.var 2) (.cst (.int 0)))) [some (.fls (ns.map Val.int)), some (.int i), some (.int c), some (.int 0), none] Z = .ok true Z := by
        by_cases c1 : 1000000000000000000 ≤ c
        · simp [p18, c1]
        · have c2 : c < 0 := by omega
          simp [p18, c1, c2]
      simp only [evS2_ite, T', st_ok, if_true, evB2_cons, evS2_set, evE_bin, evE_blt, evR_cons, evR_nil, evE_var, List.getElem?_cons_succ, List.getElem?_cons_zero, bind_ok, blt_one, e300]
      simp [md, digF, cc]
    · have c1 : ¬ 1000000000000000000 ≤ c := fun h => cc (.inl h)
      have c2 : ¬ c < 0 := fun h => cc (.inr h)
      simp [p18, c1, c2, digF]
  have n1 := fun S => bin_mod S c 18446744073709551557 (by decide)
  have n2 := fun S => mul_sm S 7 i (by omega) (by omega)
  have n3 := fun S => mul_sm S (7 * (i : Int)) i (by omega) (by omega)
  have n4 := fun S => mul_sm S 2 i (by omega) (by omega)
  have hii : 7 * (i : Int) * i + 2 * i + 3 < 2 ^ 60 ∧ 0 ≤ 7 * (i : Int) * i + 2 * i + 3 := by
    have h1 : (i : Int) ≤ 10000 := by omega
    have h2 : 7 * (i : Int) * i ≤ 7 * 10000 * 10000 := by
      have : 7 * (i : Int) * i ≤ 7 * 10000 * i := Int.mul_le_mul_of_nonneg_right (by omega) (by omega)
      have : 7 * 10000 * (i : Int) ≤ 7 * 10000 * 10000 := by omega
      omega
    have h3 : 0 ≤ 7 * (i : Int) * i := Int.mul_nonneg (by omega) (by omega)
    omega
  have n5 := fun S => mul_sm S (c % 18446744073709551557 + 1) (7 * (i : Int) * i + 2 * i + 3) (by omega) hii.1
  let z : Int := (c % 18446744073709551557 + 1) * (7 * (i : Int) * i + 2 * i + 3)
  have n6 := fun S => mul_sm S z 2654435761 (by decide) (by decide)
  have n7 := fun S => bin_mod S (z * 2654435761) 18446744073709551557 (by decide)
  have hb : g_purse.body = .cons (.set 2 (.cst (.int 0))) (.cons (nthCs g_purse.body 1) (.cons (nthCs g_purse.body 2) (.cons (nthCs g_purse.body 3) (.cons (nthCs g_purse.body 4) (.cons (nthCs g_purse.body 5) .nil))))) := rfl
  rw [run2_ok k hp h _ _ rfl (by simp), hb]
  have e0 : bindE 0 [Val.fls (ns.map Val.int), .int i] ++ List.replicate (g_purse.n - [Val.fls (ns.map Val.int), .int (i : Int)].length) none = [some (.fls (ns.map Val.int)), some (.int i), none, none, none] := rfl
  have e1 : bindS S [Val.fls (ns.map Val.int), .int i] ++ List.replicate (g_purse.n - [Val.fls (ns.map Val.int), .int (i : Int)].length) dmy = Z := rfl
  have s0 : evS2 2 T (.set 2 (.cst (.int 0))) [some (.fls (ns.map Val.int)), some (.int i), none, none, none] Z = .ok .nx [some (.fls (ns.map Val.int)), some (.int i), some (.int 0), none, none] Z := by simp
  have s2 : evS2 2 T (nthCs g_purse.body 2) [some (.fls (ns.map Val.int)), some (.int i), some (.int c), none, none] Z = .ok .nx [some (.fls (ns.map Val.int)), some (.int i), some (.int c), some (.int 0), none] Z := by simp [nthCs, g_purse]
  have np : g_purse.np = 2 := rfl
  rw [e0, e1, np, evB2_cons, s0, sbind_nx, evB2_cons, hc, sbind_nx, evB2_cons, s2, sbind_nx, evB2_cons, hd, sbind_nx]
  simp [nthCs, g_purse, n1, n2, n3, n4, n5, n6, n7, pu, z, Pu.ob, pz, mixF, c]
end
/-! ### names -/
/-- a name: one to eight small letters -/
def nmS (s : Str) : Prop := 1 ≤ s.length ∧ s.length ≤ 8 ∧ ∀ c ∈ s.cps.toList, 97 ≤ c ∧ c ≤ 122
/-- letters alone -/
def ltS (s : Str) : Prop := ∀ c ∈ s.cps.toList, 97 ≤ c ∧ c ≤ 122
theorem len_app (s t : Str) : (s ++ t).length = s.length + t.length := by
  show (s.cps ++ t.cps).size = s.cps.size + t.cps.size
  simp
theorem toL_app (s t : Str) : (s ++ t).cps.toList = s.cps.toList ++ t.cps.toList := by
  show (s.cps ++ t.cps).toList = _
  simp
theorem ltS.app {s t : Str} (h : ltS s) (h' : ltS t) : ltS (s ++ t) := fun c hc => by
  rw [toL_app] at hc
  rcases List.mem_append.mp hc with hc | hc
  · exact h c hc
  · exact h' c hc
theorem ltS.cut {s : Str} (h : ltS s) (lo hi : Option Int) : ltS (L2.cutS s lo hi) := fun c hc => by
  refine h c ?_
  have : c ∈ ((s.cps.toList.drop (HT.sIx s.length 0 lo)).take (HT.sIx s.length s.length hi - HT.sIx s.length 0 lo)) := by simpa [L2.cutS] using hc
  exact List.mem_of_mem_drop (List.mem_of_mem_take this)
theorem cut_length (s : Str) (lo hi : Option Int) : (L2.cutS s lo hi).length = min (HT.sIx s.length s.length hi - HT.sIx s.length 0 lo) (s.length - HT.sIx s.length 0 lo) := by
  show (L2.cutS s lo hi).cps.size = _
  simp [L2.cutS, Str.length]
def lettersS : Str := "abcdefghijklmnopqrstuvwxyz"
theorem letter_ix (S : Sto) {v : Int} (h : 0 ≤ v) (h' : v < 26) : ∃ s, ltS s ∧ s.length = 1 ∧ ixR S (.v (.str "abcdefghijklmnopqrstuvwxyz")) v = some (.str s) := by
  obtain ⟨n, rfl⟩ : ∃ n : Nat, v = (n : Int) := ⟨v.toNat, by omega⟩
  have hn : n < ("abcdefghijklmnopqrstuvwxyz" : Str).cps.toList.length := by
    have : ("abcdefghijklmnopqrstuvwxyz" : Str).cps.toList.length = 26 := by decide +kernel
    omega
  have hc := L2.atI_nat (List.getElem?_eq_getElem hn)
  have hl : ("abcdefghijklmnopqrstuvwxyz" : Str).length ≤ sizeLine := by decide +kernel
  refine ⟨⟨#[("abcdefghijklmnopqrstuvwxyz" : Str).cps.toList[n]]⟩, fun c hc' => ?_, rfl, by simp only [ixR, if_pos hl, hc, Option.map_some]⟩
  simp at hc'
  subst hc'
  have all : ∀ c ∈ ("abcdefghijklmnopqrstuvwxyz" : Str).cps.toList, 97 ≤ c ∧ c ≤ 122 := by decide +kernel
  exact all _ (by simp)
theorem ltS.join : ∀ {ys : List Str}, (∀ y ∈ ys, ltS y ∧ y.length = 1) → ltS (Str.join "" ys) ∧ (Str.join "" ys).length = ys.length
  | [], _ => ⟨by intro c hc; simp [Str.join, Str.empty] at hc, rfl⟩
  | [x], h => h x (by simp)
  | x :: y :: r, h => by
    obtain ⟨i1, i2⟩ := ltS.join (ys := y :: r) fun z hz => h z (by simp [hz])
    obtain ⟨x1, x2⟩ := h x (by simp)
    have em : ltS ("" : Str) ∧ ("" : Str).length = 0 := ⟨by unfold ltS; decide +kernel, by decide +kernel⟩
    have e : Str.join "" (x :: y :: r) = x ++ "" ++ Str.join "" (y :: r) := rfl
    rw [e]
    refine ⟨(x1.app em.1).app i1, ?_⟩
    rw [len_app, len_app, i2, x2, em.2]
    simp only [List.length_cons]
    omega
theorem comp_st2 (cond : Env → Sto → Res Bool) (elt : Env → Sto → Res Rv) (tg : Tg) (env : Env) (Iv : Sto → Prop) (Gd : Val → Prop) (hc : ∀ e S, cond e S = .ok true S) : ∀ (xs acc : List Val) (S : Sto), Iv S → (∀ x ∈ xs, ∀ S, Iv S → ∃ e1 y S', asgT tg x env = some e1 ∧ elt e1 S = .ok (.v y) S' ∧ Gd y ∧ Iv S') →
    ∃ ys S', compL cond elt tg env [] xs acc S = .ok (.t (.lst (acc ++ ys))) S' ∧ ys.length = xs.length ∧ (∀ y ∈ ys, Gd y) ∧ Iv S'
  | [], acc, S, hI, _ => ⟨[], S, by simp [compL], rfl, by simp, hI⟩
  | x :: xs, acc, S, hI, h => by
    obtain ⟨e1, y, S1, h1, h2, h3, h4⟩ := h x (by simp) S hI
    obtain ⟨ys, S2, q1, q2, q3, q4⟩ := comp_st2 cond elt tg env Iv Gd hc xs (acc ++ [y]) S1 h4 fun z hz => h z (by simp [hz])
    refine ⟨y :: ys, S2, ?_, by simp [q2], fun z hz => ?_, q4⟩
    · rw [compL, guardL_nil']
      simp only [h1, hc, h2, bind_ok, lay_v, if_true, q1]
      simp
    · rcases List.mem_cons.mp hz with rfl | hz
      · exact h3
      · exact q3 z hz
theorem comp_live2 (cond : Env → Sto → Res Bool) (elt : Env → Sto → Res Rv) (tg : Tg) (env : Env) (S : Sto) (live : List (Nat × List Val)) (hv : liveOk S live) (hc : ∀ e, cond e S = .ok true S) (Gd : Val → Prop) :
    ∀ (xs acc : List Val), (∀ x ∈ xs, ∃ e1 y, asgT tg x env = some e1 ∧ elt e1 S = .ok (.v y) S ∧ Gd y) → ∃ ys, compL cond elt tg env live xs acc S = .ok (.t (.lst (acc ++ ys))) S ∧ ys.length = xs.length ∧ ∀ y ∈ ys, Gd y
  | [], acc, _ => ⟨[], by simp [compL, guardL_pos _ hv], rfl, by simp⟩
  | x :: xs, acc, h => by
    obtain ⟨e1, y, h1, h2, h3⟩ := h x (by simp)
    obtain ⟨ys, q1, q2, q3⟩ := comp_live2 cond elt tg env S live hv hc Gd xs (acc ++ [y]) fun z hz => h z (by simp [hz])
    refine ⟨y :: ys, ?_, by simp [q2], fun z hz => ?_⟩
    · rw [compL, guardL_pos _ hv]
      simp only [h1, hc, h2, bind_ok, lay_v, if_true, q1]
      simp
    · rcases List.mem_cons.mp hz with rfl | hz
      · exact h3
      · exact q3 z hz
theorem strs_of : ∀ {ys : List Val} {G : Str → Prop}, (∀ y ∈ ys, ∃ s, G s ∧ y = .str s) → ∃ ss : List Str, ys = ss.map Val.str ∧ ∀ s ∈ ss, G s
  | [], _, _ => ⟨[], rfl, by simp⟩
  | y :: ys, G, h => by
    obtain ⟨s, hs, rfl⟩ := h y (by simp)
    obtain ⟨ss, rfl, h2⟩ := strs_of (ys := ys) (G := G) fun z hz => h z (by simp [hz])
    exact ⟨s :: ss, rfl, by intro z hz; rcases List.mem_cons.mp hz with rfl | hz; exact hs; exact h2 z hz⟩
theorem strsOf_map' : ∀ ss : List Str, strsOf (ss.map Val.str) = some ss
  | [] => rfl
  | s :: ss => by simp [strsOf, strsOf_map' ss]
theorem sl_str (S : Sto) (s : Str) (h : s.length ≤ 1000) (lo hi : Option Int) : slR S (.v (.str s)) lo hi = some (.v (.str (L2.cutS s lo hi))) := by
  have : s.length ≤ sizeLine := le_line (by omega)
  simp only [slR, if_pos this]
theorem add_str (S : Sto) (s t : Str) (h : s.length + t.length ≤ 1000) : binR S .add (.v (.str s)) (.v (.str t)) = some (.v (.str (s ++ t))) := by
  have : s.length + t.length ≤ sizeLine := le_line (by omega)
  simp only [binR, addR, if_pos this]
section
variable {P : Str → Option Fd} {pr : Prims} (k : Nat)
/-- the frame of the names -/
def nmZ (p : Pu) (o5 o9 : Ob) : Sto := [p.ob, dmy, dmy, dmy, dmy, o5, dmy, dmy, dmy, o9, dmy, dmy]
@[simp] theorem nmZ_len (p : Pu) (o5 o9 : Ob) : (nmZ p o5 o9).length = 12 := id rfl
@[simp] theorem nmZ_5 (p : Pu) (o5 o9 o : Ob) : (nmZ p o5 o9).set 5 o = nmZ p o o9 := id rfl
@[simp] theorem nmZ_9 (p : Pu) (o5 o9 o : Ob) : (nmZ p o5 o9).set 9 o = nmZ p o5 o := id rfl
@[simp] theorem nmZ_g0 (p : Pu) (o5 o9 : Ob) : (nmZ p o5 o9)[0]? = some p.ob := id rfl
@[simp] theorem nmZ_g5 (p : Pu) (o5 o9 : Ob) : (nmZ p o5 o9)[5]? = some o5 := id rfl
@[simp] theorem nmZ_g9 (p : Pu) (o5 o9 : Ob) : (nmZ p o5 o9)[9]? = some o9 := id rfl
theorem nm_take (hp : pr k "_law_take" = none) (h : P "_law_take" = some g_take) (p : Pu) (o5 o9 : Ob) (m : Int) (hm : 0 < m) (hm' : m ≤ 10 ^ 60) : run2 P pr (k + 1) "_law_take" [.ref 0, .int m] (nmZ p o5 o9) = .ok (.v (.int (p.dr m))) (nmZ (p.nx m) o5 o9) := take2 (P := P) (pr := pr) k (nmZ p o5 o9) hp h (l := 0) (p := p) rfl m hm hm'
theorem rngL_len (n : Nat) (h : n ≤ 1000) : (rngL 0 n).length ≤ sizeLine := le_line (by rw [rng_len]; omega)
theorem cutL_drop (ss : List Str) (u : Nat) (h : u ≤ ss.length) : cutL (ss.map Val.str) (some (u : Int)) none = (ss.drop u).map Val.str := by
  unfold cutL
  have s1 : HT.sIx (ss.map Val.str).length 0 (some (u : Int)) = u := by simp only [HT.sIx, List.length_map]; split <;> omega
  have s2 : HT.sIx (ss.map Val.str).length (ss.map Val.str).length none = ss.length := by simp [HT.sIx]
  rw [s1, s2, ← List.map_drop, ← List.map_take]
  congr 1
  apply List.take_of_length_le
  simp
theorem cutL_take (ss : List Str) (u : Nat) (h : u ≤ ss.length) : cutL (ss.map Val.str) none (some (u : Int)) = (ss.take u).map Val.str := by
  unfold cutL
  have s1 : HT.sIx (ss.map Val.str).length (ss.map Val.str).length (some (u : Int)) = u := by simp only [HT.sIx, List.length_map]; split <;> omega
  have s2 : HT.sIx (ss.map Val.str).length 0 none = 0 := by simp [HT.sIx]
  rw [s1, s2, ← List.map_drop, ← List.map_take]
  simp
theorem names2 (hp : pr k "_law_take" = none) (hp2 : pr (k + 1) "_law_names" = none) (h : P "_law_take" = some g_take) (h2 : P "_law_names" = some g_names) {l : Nat} {S : Sto} {p : Pu} (hS : S[l]? = some p.ob) :
    ∃ (nms : List Str) (p' : Pu), 1 ≤ nms.length ∧ nms.length ≤ 8 ∧ (∀ s ∈ nms, nmS s) ∧ run2 P pr (k + 2) "_law_names" [.ref l] S = .ok (.t (.lst (nms.map Val.str))) (S.set l p'.ob) := by
  let T := run2 P pr (k + 1)
  have tk := nm_take (P := P) (pr := pr) k hp h
  -- the base
  let env1 : Env := [some (.ref 0), some (.str "abcdefghijklmnopqrstuvwxyz"), none, none, none, none, none, none, none, none, none, none]
  obtain ⟨ys, S1, c1, c2, c3, p1, c4⟩ := comp_st2 (fun _ S => .ok true S) (evE T (.ix (.var 1) (.call "_law_take" (.cons (.var 0) (.cons (.cst (.int 26)) .nil))))) (.n 10) (wipeE env1 [10]) (fun S => ∃ p, S = nmZ p dmy dmy) (fun y => ∃ s, (ltS s ∧ s.length = 1) ∧ y = .str s) (fun _ _ => rfl) (rngL 0 8) [] (nmZ p dmy dmy) ⟨p, rfl⟩ (by
    rintro x hx _ ⟨p, rfl⟩
    obtain ⟨s, h1, h2, h3⟩ := letter_ix (nmZ (p.nx 26) dmy dmy) (p.dr_lt (m := 26) (by decide)).1 (p.dr_lt (m := 26) (by decide)).2
    refine ⟨_, .str s, nmZ (p.nx 26) dmy dmy, rfl, ?_, ⟨s, ⟨h1, h2⟩, rfl⟩, _, rfl⟩
    simp [T, env1, tk p dmy dmy 26 (by decide) (by decide), h3])
  subst c4
  obtain ⟨ss, rfl, hss⟩ := strs_of c3
  obtain ⟨b1, b2⟩ := ltS.join hss
  have hl8 : ss.length = 8 := by simpa [rng_len] using c2
  let base : Str := Str.join "" ss
  have jn : joinR (nmZ p1 dmy dmy) "" (.t (.lst (ss.map Val.str))) = some (.str base) := by
    have hsum : ∀ l : List Str, (∀ s ∈ l, ltS s ∧ s.length = 1) → (l.map (·.length)).sum = l.length := by
      intro l
      induction l with
      | nil => intro _; rfl
      | cons x l ih => intro hh; simp only [List.map_cons, List.sum_cons, List.length_cons, (hh x (by simp)).2, ih fun z hz => hh z (by simp [hz])]; omega
    have e0 : ("" : Str).length = 0 := by decide +kernel
    have : (ss.map (·.length)).sum + ss.length * ("" : Str).length ≤ 16777216 := by rw [hsum ss hss, e0, hl8]; decide
    simp only [joinR, seqOf_tl, Option.bind_some, strsOf_map', if_pos this, base]
  have C4 : evE T g_names_c4 env1 (nmZ p dmy dmy) = .ok (.t (.lst (ss.map Val.str))) (nmZ p1 dmy dmy) := by
    have r : rangeR [.v (.int 8)] = some ⟨rngL 0 8, []⟩ := range_0 8 (by decide)
    unfold g_names_c4
    rw [evE_comp, evI_rg1, evE_cst, bind_ok, r, of_some, bind_ok]
    simp only
    rw [if_pos (rngL_len 8 (by decide)), evC_none, c1]
    simp
  have d1 := p1.dr_lt (m := 8) (by decide)
  obtain ⟨m, hm⟩ : ∃ m : Nat, (1 + p1.dr 8 : Int) = m := ⟨(1 + p1.dr 8).toNat, by omega⟩
  let p2 := p1.nx 8
  have d2 := p2.dr_lt (m := m) (by omega)
  obtain ⟨t, ht⟩ : ∃ t : Nat, p2.dr m = t := ⟨(p2.dr m).toNat, by omega⟩
  let p3 := p2.nx m
  let p4 := p3.nx 3
  have d4 := p4.dr_lt (m := 8) (by decide)
  obtain ⟨g, hg⟩ : ∃ g : Nat, (1 + p4.dr 8 : Int) = g := ⟨(1 + p4.dr 8).toNat, by omega⟩
  let p5 := p4.nx 8
  have d5 := p5.dr_lt (m := g) (by omega)
  obtain ⟨a, ha⟩ : ∃ a : Nat, p5.dr g = a := ⟨(p5.dr g).toNat, by omega⟩
  let p6 := p5.nx g
  have d6 := p6.dr_lt (m := 26) (by decide)
  let p7 := p6.nx 26
  have rm := range_0 m (by omega)
  have k1 := tk p1 dmy dmy 8 (by decide) (by decide)
  have k2 := tk p2 dmy dmy m (by omega) (by omega)
  have k3 := tk p3 dmy dmy 3 (by decide) (by decide)
  have k4 := tk p4 dmy dmy 8 (by decide) (by decide)
  have k5 := tk p5 dmy dmy g (by omega) (by omega)
  have k6 := tk p6 dmy dmy 26 (by decide) (by decide)
  -- the end
  have fin : ∀ (rs : List Str) (q : Pu) (o9 : Ob) (x6 x7 x8 x9 : Option Val), rs.length = m → (∀ s ∈ rs, nmS s) → ∃ nms : List Str, 1 ≤ nms.length ∧ nms.length ≤ 8 ∧ (∀ s ∈ nms, nmS s) ∧ evS T (.ret (.some (.bin .add (.sl (.var 5) (.some (.var 4)) .none) (.sl (.var 5) .none (.some (.var 4)))))) [some (.ref 0), some (.str "abcdefghijklmnopqrstuvwxyz"), some (.str base), some (.int m), some (.int t), some (.ref 5), x6, x7, x8, x9, none, none] (nmZ q (.lst (rs.map Val.str)) o9) = .ok (.rt (.t (.lst (nms.map Val.str)))) [some (.ref 0), some (.str "abcdefghijklmnopqrstuvwxyz"), some (.str base), some (.int m), some (.int t), some (.ref 5), x6, x7, x8, x9, none, none] (nmZ q (.lst (rs.map Val.str)) o9) := by
    intro rs q o9 x6 x7 x8 x9 hl hr
    refine ⟨rs.drop t ++ rs.take t, by simp; omega, by simp; omega, fun s hs => ?_, ?_⟩
    · rcases List.mem_append.mp hs with hs | hs
      · exact hr s (List.mem_of_mem_drop hs)
      · exact hr s (List.mem_of_mem_take hs)
    · have ad : ∀ S, binR S .add (.t (.lst ((rs.drop t).map Val.str))) (.t (.lst ((rs.take t).map Val.str))) = some (.t (.lst ((rs.drop t ++ rs.take t).map Val.str))) := fun S => by
        have : ((rs.drop t).map Val.str).length + ((rs.take t).map Val.str).length ≤ sizeLine := le_line (by simp; omega)
        simp only [binR, addR, lstW, if_pos this, List.map_append]
      simp only [evS_ret, evE_bin, evE_sl, evE_var, List.getElem?_cons_succ, List.getElem?_cons_zero, bind_ok, evO_some, evO_none, sl_rf, nmZ_g5, of_some, cutL_drop rs t (by omega), cutL_take rs t (by omega), ad, st_ok]
  have hb : g_names.body = .cons (.set 1 (.cst (.str "abcdefghijklmnopqrstuvwxyz"))) (.cons (nthCs g_names.body 1) (.cons (nthCs g_names.body 2) (.cons (nthCs g_names.body 3) (.cons (nthCs g_names.body 4) (.cons (nthCs g_names.body 5) .nil))))) := rfl
  have e0 : bindE 0 [Val.ref l] ++ List.replicate (g_names.n - [Val.ref l].length) none = [some (.ref 0), none, none, none, none, none, none, none, none, none, none, none] := rfl
  have e1 : bindS S [Val.ref l] ++ List.replicate (g_names.n - [Val.ref l].length) dmy = nmZ p dmy dmy := by
    simp only [bindS_r, bindS_nil, hS, Option.getD_some]
    rfl
  have np : g_names.np = 1 := rfl
  have s1 : evS2 1 T (nthCs g_names.body 1) env1 (nmZ p dmy dmy) = .ok .nx [some (.ref 0), some (.str "abcdefghijklmnopqrstuvwxyz"), some (.str base), none, none, none, none, none, none, none, none, none] (nmZ p1 dmy dmy) := by
    show evS2 1 T (.set 2 (.join "" g_names_c4)) env1 _ = _
    rw [evS2_set, evE_join, C4, bind_ok, jn]
    simp [env1]
  have s2 : evS2 1 T (nthCs g_names.body 2) [some (.ref 0), some (.str "abcdefghijklmnopqrstuvwxyz"), some (.str base), none, none, none, none, none, none, none, none, none] (nmZ p1 dmy dmy) = .ok .nx [some (.ref 0), some (.str "abcdefghijklmnopqrstuvwxyz"), some (.str base), some (.int m), none, none, none, none, none, none, none, none] (nmZ p2 dmy dmy) := by
    simp [nthCs, g_names, T, k1, hm, p2]
  have s3 : evS2 1 T (nthCs g_names.body 3) [some (.ref 0), some (.str "abcdefghijklmnopqrstuvwxyz"), some (.str base), some (.int m), none, none, none, none, none, none, none, none] (nmZ p2 dmy dmy) = .ok .nx [some (.ref 0), some (.str "abcdefghijklmnopqrstuvwxyz"), some (.str base), some (.int m), some (.int t), none, none, none, none, none, none, none] (nmZ p3 dmy dmy) := by
    simp [nthCs, g_names, T, k2, ht, p3]
  have hb8 : base.length = 8 := by rw [b2, hl8]
  have start : ∀ (nms : List Str) (q : Pu) (o5 o9 : Ob) (env' : Env), evB2 1 T (.cons (nthCs g_names.body 4) (.cons (nthCs g_names.body 5) .nil)) [some (.ref 0), some (.str "abcdefghijklmnopqrstuvwxyz"), some (.str base), some (.int m), some (.int t), none, none, none, none, none, none, none] (nmZ p3 dmy dmy) = .ok (.rt (.t (.lst (nms.map Val.str)))) env' (nmZ q o5 o9) → run2 P pr (k + 2) "_law_names" [.ref l] S = .ok (.t (.lst (nms.map Val.str))) (S.set l q.ob) := by
    intro nms q o5 o9 env' hh
    rw [run2_ok (k + 1) hp2 h2 _ _ rfl (by simp), hb, e0, e1, np, evB2_cons, evS2_set, evE_cst, st_ok, setK_v _ _ _ _ _ (loc_str _), sbind_nx]
    simp only [List.set_cons_succ, List.set_cons_zero]
    rw [evB2_cons]
    rw [s1, sbind_nx, evB2_cons, s2, sbind_nx, evB2_cons, s3, sbind_nx, hh, fin2_t, back_r, back_nil, nmZ_g0, Option.getD_some]
  by_cases hc : p3.dr 3 = 0
  · -- beginnings of one text
    let env5 : Env := [some (.ref 0), some (.str "abcdefghijklmnopqrstuvwxyz"), some (.str base), some (.int m), some (.int t), none, none, none, none, none, none, none]
    obtain ⟨ys, S5, q1, q2, q3, q4⟩ := comp_st2 (fun _ S => .ok true S) (evE T (.fz (.sl (.var 2) .none (.some (.bin .add (.var 10) (.cst (.int 1))))))) (.n 10) (wipeE env5 [10]) (fun S => S = nmZ p4 dmy dmy) (fun y => ∃ s, nmS s ∧ y = .str s) (fun _ _ => rfl) (rngL 0 m) [] (nmZ p4 dmy dmy) rfl (by
      rintro x hx _ rfl
      obtain ⟨i, hi, rfl⟩ := List.mem_map.mp hx
      have hi' := List.mem_range.mp hi
      have sl := sl_str (nmZ p4 dmy dmy) base (by omega) none (some (0 + (i : Int) + 1))
      refine ⟨_, .str (L2.cutS base none (some (0 + (i : Int) + 1))), _, rfl, ?_, ⟨_, ?_, rfl⟩, rfl⟩
      · simp only [Int.zero_add] at sl
        simp [env5, sl]
      · have e : (L2.cutS base none (some (0 + (i : Int) + 1))).length = i + 1 := by
          rw [cut_length, hb8]
          simp only [HT.sIx]
          split <;> omega
        refine ⟨by omega, by omega, b1.cut _ _⟩)
    subst q4
    obtain ⟨rs, rfl, hrs⟩ := strs_of q3
    have hrl : rs.length = m := by simpa [rng_len] using q2
    have C1 : evE T g_names_c1 env5 (nmZ p4 dmy dmy) = .ok (.t (.lst (rs.map Val.str))) (nmZ p4 dmy dmy) := by
      unfold g_names_c1
      rw [evE_comp, evI_rg1, evE_var]
      simp only [env5, List.getElem?_cons_succ, List.getElem?_cons_zero, bind_ok, rm, of_some]
      rw [if_pos (rngL_len m (by omega)), evC_none]
      simp only [env5] at q1
      rw [q1]
      simp
    obtain ⟨nms, n1, n2, n3, n4⟩ := fin rs p4 dmy none none none none hrl hrs
    refine ⟨nms, p4, n1, n2, n3, start nms p4 (.lst (rs.map Val.str)) dmy [some (.ref 0), some (.str "abcdefghijklmnopqrstuvwxyz"), some (.str base), some (.int m), some (.int t), some (.ref 5), none, none, none, none, none, none] ?_⟩
    have s4 : evS2 1 T (nthCs g_names.body 4) env5 (nmZ p3 dmy dmy) = .ok .nx [some (.ref 0), some (.str "abcdefghijklmnopqrstuvwxyz"), some (.str base), some (.int m), some (.int t), some (.ref 5), none, none, none, none, none, none] (nmZ p4 (.lst (rs.map Val.str)) dmy) := by
      simp only [env5] at C1
      simp [nthCs, g_names, T, k3, hc, env5]
      simp [T] at C1
      simp [p4] at C1
      rw [C1]
      simp [p4]
    rw [evB2_cons, s4, sbind_nx, evB2_cons, show nthCs g_names.body 5 = .ret (.some (.bin .add (.sl (.var 5) (.some (.var 4)) .none) (.sl (.var 5) .none (.some (.var 4))))) from rfl, evS2_ret, n4]
    rfl
  · -- alike but at a place
    let env8 : Env := [some (.ref 0), some (.str "abcdefghijklmnopqrstuvwxyz"), some (.str base), some (.int m), some (.int t), none, some (.int g), some (.int a), some (.int (p6.dr 26)), none, none, none]
    obtain ⟨ys, S5, q1, q2, q3, q4⟩ := comp_st2 (fun _ S => .ok true S) (evE T (.ix (.var 1) (.bin .mod (.bin .add (.var 8) (.bin .mul (.cst (.int 3)) (.var 10))) (.cst (.int 26))))) (.n 10) (wipeE env8 [10]) (fun S => S = nmZ p7 dmy dmy) (fun y => ∃ s, (ltS s ∧ s.length = 1) ∧ y = .str s) (fun _ _ => rfl) (rngL 0 m) [] (nmZ p7 dmy dmy) rfl (by
      rintro x hx _ rfl
      obtain ⟨i, hi, rfl⟩ := List.mem_map.mp hx
      have hi' := List.mem_range.mp hi
      have m1 := mul_sm (nmZ p7 dmy dmy) 3 (i : Int) (by omega) (by omega)
      have m2 := bin_mod (nmZ p7 dmy dmy) (p6.dr 26 + 3 * (i : Int)) 26 (by decide)
      have v0 := Int.emod_nonneg (p6.dr 26 + 3 * (i : Int)) (b := 26) (by decide)
      have v1 := Int.emod_lt_of_pos (p6.dr 26 + 3 * (i : Int)) (b := 26) (by decide)
      obtain ⟨s, h1, h2, h3⟩ := letter_ix (nmZ p7 dmy dmy) v0 v1
      refine ⟨_, .str s, _, rfl, ?_, ⟨s, ⟨h1, h2⟩, rfl⟩, rfl⟩
      simp [env8, m1, m2, h3])
    subst q4
    obtain ⟨ts, rfl, hts⟩ := strs_of q3
    have htl : ts.length = m := by simpa [rng_len] using q2
    have C3 : evE T g_names_c3 env8 (nmZ p7 dmy dmy) = .ok (.t (.lst (ts.map Val.str))) (nmZ p7 dmy dmy) := by
      unfold g_names_c3
      rw [evE_comp, evI_rg1, evE_var]
      simp only [env8, List.getElem?_cons_succ, List.getElem?_cons_zero, bind_ok, rm, of_some]
      rw [if_pos (rngL_len m (by omega)), evC_none]
      simp only [env8] at q1
      rw [q1]
      simp
    let env9 : Env := [some (.ref 0), some (.str "abcdefghijklmnopqrstuvwxyz"), some (.str base), some (.int m), some (.int t), none, some (.int g), some (.int a), some (.int (p6.dr 26)), some (.ref 9), none, none]
    let Z9 : Sto := nmZ p7 dmy (.lst (ts.map Val.str))
    obtain ⟨zs, r1, r2, r3⟩ := comp_live2 (fun _ S => .ok true S) (evE T (.fz (.bin .add (.bin .add (.sl (.var 2) .none (.some (.var 7))) (.var 11)) (.sl (.var 2) (.some (.bin .add (.var 7) (.cst (.int 1)))) (.some (.var 6)))))) (.n 11) (wipeE env9 [11]) Z9 [(9, ts.map Val.str)] ⟨rfl, trivial⟩ (fun _ => rfl) (fun y => ∃ s, nmS s ∧ y = .str s) (ts.map Val.str) [] (by
      intro x hx
      obtain ⟨u, hu, rfl⟩ := List.mem_map.mp hx
      obtain ⟨u1, u2⟩ := hts u hu
      have l1 : (L2.cutS base none (some (a : Int))).length = a := by
        rw [cut_length, hb8]
        simp only [HT.sIx]
        split <;> omega
      have l2 : (L2.cutS base (some ((a : Int) + 1)) (some (g : Int))).length = g - (a + 1) := by
        rw [cut_length, hb8]
        simp only [HT.sIx]
        split <;> split <;> omega
      have s1 := sl_str Z9 base (by omega) none (some (a : Int))
      have s2 := sl_str Z9 base (by omega) (some ((a : Int) + 1)) (some (g : Int))
      have a1 := add_str Z9 (L2.cutS base none (some (a : Int))) u (by omega)
      have a2 := add_str Z9 (L2.cutS base none (some (a : Int)) ++ u) (L2.cutS base (some ((a : Int) + 1)) (some (g : Int))) (by rw [len_app]; omega)
      refine ⟨_, .str (L2.cutS base none (some (a : Int)) ++ u ++ L2.cutS base (some ((a : Int) + 1)) (some (g : Int))), rfl, ?_, ⟨_, ⟨?_, ?_, ?_⟩, rfl⟩⟩
      · simp [env9, s1, s2, a1, a2]
      · rw [len_app, len_app]; omega
      · rw [len_app, len_app]; omega
      · exact ((b1.cut _ _).app u1).app (b1.cut _ _))
    obtain ⟨rs, rfl, hrs⟩ := strs_of r3
    have hrl : rs.length = m := by simp at r2; omega
    have C2 : evE T g_names_c2 env9 Z9 = .ok (.t (.lst (rs.map Val.str))) Z9 := by
      unfold g_names_c2
      rw [evE_comp, evI_e, evE_var]
      simp only [env9, List.getElem?_cons_succ, List.getElem?_cons_zero, bind_ok, src_rf, Z9, nmZ_g9, of_some]
      rw [if_pos (le_line (by rw [List.length_map]; omega)), evC_none]
      simp only [env9, Z9] at r1
      rw [r1]
      simp
    obtain ⟨nms, n1, n2, n3, n4⟩ := fin rs p7 (.lst (ts.map Val.str)) (some (.int g)) (some (.int a)) (some (.int (p6.dr 26))) (some (.ref 9)) hrl hrs
    refine ⟨nms, p7, n1, n2, n3, start nms p7 (.lst (rs.map Val.str)) (.lst (ts.map Val.str)) [some (.ref 0), some (.str "abcdefghijklmnopqrstuvwxyz"), some (.str base), some (.int m), some (.int t), some (.ref 5), some (.int g), some (.int a), some (.int (p6.dr 26)), some (.ref 9), none, none] ?_⟩
    have s4 : evS2 1 T (nthCs g_names.body 4) [some (.ref 0), some (.str "abcdefghijklmnopqrstuvwxyz"), some (.str base), some (.int m), some (.int t), none, none, none, none, none, none, none] (nmZ p3 dmy dmy) = .ok .nx [some (.ref 0), some (.str "abcdefghijklmnopqrstuvwxyz"), some (.str base), some (.int m), some (.int t), some (.ref 5), some (.int g), some (.int a), some (.int (p6.dr 26)), some (.ref 9), none, none] (nmZ p7 (.lst (rs.map Val.str)) (.lst (ts.map Val.str))) := by
      simp only [env8, T] at C3
      simp only [env9, Z9, T] at C2
      simp only [p4] at k4
      simp only [p5, p4] at k5
      simp only [p6, p5, p4] at k6
      simp only [p4] at hg
      simp only [p5, p4] at ha
      simp only [p7, p6, p5, p4] at C3 C2
      simp [nthCs, g_names, T, k3, hc, k4, hg, k5, ha, k6, C3, C2, p7, p6, p5, p4]
    rw [evB2_cons, s4, sbind_nx, evB2_cons, show nthCs g_names.body 5 = .ret (.some (.bin .add (.sl (.var 5) (.some (.var 4)) .none) (.sl (.var 5) .none (.some (.var 4))))) from rfl, evS2_ret, n4]
    rfl
end
end Fe

/-! Gvc: groves, plainly; the law's tidying -/
namespace Fe
open PySem PySem.W
/-- a text that may stand in a tree -/
def GS (s : Str) (n : Nat) : Prop := (∀ c ∈ s.cps.toList, c < 0x110000) ∧ s.length ≤ n
theorem GS.ok {s : Str} {n : Nat} (h : GS s n) : PyData.strOk s = true := by
  unfold PyData.strOk
  rw [Array.all_eq_true']
  intro c hc
  simpa using h.1 c (by simpa using hc)
theorem GS.up {s : Str} {n m : Nat} (h : GS s n) (hm : n ≤ m) : GS s m := ⟨h.1, Nat.le_trans h.2 hm⟩
theorem nmS.gs {s : Str} (h : nmS s) : GS s 20 := ⟨fun c hc => by have := (h.2.2 c hc).2; omega, by have := h.2.1; omega⟩
/-! ### what may be compared -/
def dOk (d : Nat) (x : Val) : Prop := x.bel 0 = true ∧ PyData.canLay0 x.pd = true ∧ x.pd.depth ≤ d
theorem dOk.up {d e : Nat} {x : Val} (h : dOk d x) (hd : d ≤ e) : dOk e x := ⟨h.1, h.2.1, Nat.le_trans h.2.2 hd⟩
theorem dOk_int (i : Int) : dOk 0 (.int i) := ⟨rfl, by simp [Val.pd, PyData.canLay0], by simp [Val.pd, PyData.depth]⟩
theorem dOk_str {s : Str} {n : Nat} (h : GS s n) : dOk 0 (.str s) := ⟨rfl, by simp [Val.pd, PyData.canLay0, h.ok], by simp [Val.pd, PyData.depth]⟩
theorem dOk_list {d : Nat} : ∀ {xs : List Val}, (∀ x ∈ xs, dOk d x) → Val.belL 0 xs = true ∧ PyData.canLayAll0 (Val.pdL xs) = true ∧ PyData.depthAll (Val.pdL xs) ≤ d
  | [], _ => ⟨rfl, by simp [Val.pdL, PyData.canLayAll0], by simp [Val.pdL, PyData.depthAll]⟩
  | x :: xs, h => by
    obtain ⟨a, b, c⟩ := dOk_list (xs := xs) (d := d) fun y hy => h y (by simp [hy])
    obtain ⟨a', b', c'⟩ := h x (by simp)
    refine ⟨by simp [Val.belL, a, a'], by simp [Val.pdL, PyData.canLayAll0, b, b'], ?_⟩
    simp only [Val.pdL, PyData.depthAll]
    omega
theorem dOk_tup {d : Nat} {xs : List Val} (h : ∀ x ∈ xs, dOk d x) : dOk (d + 1) (.tup xs) := by
  obtain ⟨a, b, c⟩ := dOk_list h
  refine ⟨by simp [Val.bel, a], by simp [Val.pd, PyData.canLay0, b], ?_⟩
  simp only [Val.pd, PyData.depth]
  omega
theorem dOk_shaped {x : Val} {d : Nat} (h : dOk d x) (hd : d ≤ 60) : SeqAt.shaped x.pd = true := by
  have := h.2.2
  simp [SeqAt.shaped, h.2.1]
  omega
theorem dOk_shl {xs : List Val} {d : Nat} (h : ∀ x ∈ xs, dOk d x) (hd : d ≤ 59) : SeqAt.shaped (.list (Val.pdL xs)) = true := by
  obtain ⟨a, b, c⟩ := dOk_list h
  simp [SeqAt.shaped, PyData.canLay0, b, PyData.depth]
  omega
theorem eqR_v (S : Sto) {x y : Val} (hx : dOk 60 x) (hy : dOk 60 y) (nx : nref x = true) (ny : nref y = true) : eqR S (.v x) (.v y) = some (PyData.eqv x.pd y.pd) := by
  have dx : datR S (.v x) = some x.pd := by
    cases x with
    | ref l => cases nx
    | _ => simp only [datR, hx.1, if_true]
  have dy : datR S (.v y) = some y.pd := by
    cases y with
    | ref l => cases ny
    | _ => simp only [datR, hy.1, if_true]
  simp only [eqR, dx, dy, dOk_shaped hx (by omega), dOk_shaped hy (by omega), and_self, if_true]
theorem ref_nil {S : Sto} {r : Nat} {xs : List Val} (h : S[r]? = some (.lst xs)) {d : Nat} (hx : ∀ x ∈ xs, dOk d x) (hd : d ≤ 59) : eqR S (.v (.ref r)) (.t (.lst [])) = some xs.isEmpty := by
  have hs0 : SeqAt.shaped (.list []) = true := by decide
  have hs := dOk_shl hx hd
  simp only [eqR, datR, h, (dOk_list hx).1, if_true, Val.belL, Val.pdL, hs, hs0, and_self]
  cases xs with
  | nil => simp [Val.pdL, PyData.eqv, PyData.eqvAll]
  | cons p ws => simp [Val.pdL, PyData.eqv, PyData.eqvAll]
/-! ### groves -/
inductive Gro where
  | nil
  | cons (k : Str) (s : Gro) (n : Int) (r : Gro)
deriving DecidableEq
namespace Gro
def enc : Gro → List Val
  | nil => []
  | cons k s n r => .tup [.tup [.str k, .tup (enc s)], .int n] :: enc r
def v (g : Gro) : Val := .tup g.enc
def dep : Gro → Nat
  | nil => 0
  | cons _ s _ r => max (s.dep + 1) r.dep
def siz : Gro → Nat
  | nil => 0
  | cons _ s _ r => s.siz + r.siz + 1
def len : Gro → Nat
  | nil => 0
  | cons _ _ _ r => r.len + 1
def gs : Gro → Prop
  | nil => True
  | cons k s _ r => GS k 20 ∧ s.gs ∧ r.gs
/-- how many at the top -/
def sm : Gro → Int
  | nil => 0
  | cons _ _ n r => n + r.sm
/-- numbers from 1 on, their sums bounded at each level -/
def bnd (B : Int) : Gro → Prop
  | nil => True
  | cons _ s n r => 1 ≤ n ∧ s.sm ≤ B ∧ s.bnd B ∧ r.bnd B
theorem len_enc (g : Gro) : g.enc.length = g.len := by
  induction g with
  | nil => rfl
  | cons k s n r _ ih => simp [enc, len, ih]
theorem len_siz (g : Gro) : g.len ≤ g.siz := by
  induction g with
  | nil => simp [len, siz]
  | cons k s n r _ ih => simp only [len, siz]; omega
theorem ok_enc : ∀ (g : Gro) (d : Nat), g.gs → g.dep ≤ d → ∀ x ∈ g.enc, dOk (3 * d) x
  | nil, d, _, _ => by simp [enc]
  | cons k s n r, d, hg, hd => by
    simp only [dep] at hd
    obtain ⟨d, rfl⟩ : ∃ e, d = e + 1 := ⟨d - 1, by omega⟩
    intro x hx
    rcases List.mem_cons.mp hx with rfl | hx
    · have h1 : dOk (3 * d + 1) (.tup s.enc) := dOk_tup (ok_enc s d hg.2.1 (by omega))
      have h2 : dOk (3 * d + 1 + 1) (.tup [.str k, .tup s.enc]) := dOk_tup fun y hy => by
        rcases List.mem_cons.mp hy with rfl | hy
        · exact (dOk_str hg.1).up (by omega)
        · simp at hy
          rw [hy]
          exact h1
      have h3 : dOk (3 * d + 1 + 1 + 1) (.tup [.tup [.str k, .tup s.enc], .int n]) := dOk_tup fun y hy => by
        rcases List.mem_cons.mp hy with rfl | hy
        · exact h2
        · simp at hy
          rw [hy]
          exact (dOk_int n).up (by omega)
      exact h3.up (by omega)
    · exact ok_enc r (d + 1) hg.2.2 (by omega) x hx
theorem eqv_enc : ∀ (L M : Gro), PyData.eqvAll (Val.pdL L.enc) (Val.pdL M.enc) = decide (L = M)
  | nil, nil => by simp [enc, Val.pdL, PyData.eqvAll]
  | nil, cons _ _ _ _ => by simp [enc, Val.pdL, PyData.eqvAll]
  | cons _ _ _ _, nil => by simp [enc, Val.pdL, PyData.eqvAll]
  | cons k e n r, cons k' e' n' r' => by
    simp only [enc, Val.pdL, Val.pd, PyData.eqvAll, PyData.eqv, eqv_enc e e', eqv_enc r r', Gro.cons.injEq]
    by_cases h0 : k = k' <;> by_cases h1 : e = e' <;> by_cases h2 : n = n' <;> by_cases h3 : r = r' <;> simp [h0, h1, h2, h3]
theorem alike_enc : ∀ L M : Gro, alikeAll (Val.pdL L.enc) (Val.pdL M.enc) = true
  | nil, _ => by simp [enc, Val.pdL, alikeAll]
  | cons _ _ _ _, nil => by simp [enc, Val.pdL, alikeAll]
  | cons k e n r, cons k' e' n' r' => by simp [enc, Val.pdL, Val.pd, alikeAll, alike, alike_enc e e', alike_enc r r']
end Gro
/-! ### rows -/
abbrev Tre := Str × Gro
abbrev GRow := Tre × Int
def tv (t : Tre) : Val := .tup [.str t.1, .tup t.2.enc]
@[simp] theorem tv_frz (t : Tre) : frzR (.v (tv t)) = some (tv t) := id rfl
def gpr (p : GRow) : Val := .tup [tv p.1, .int p.2]
def toG : List GRow → Gro
  | [] => .nil
  | p :: r => .cons p.1.1 p.1.2 p.2 (toG r)
theorem enc_toG : ∀ rs : List GRow, (toG rs).enc = rs.map gpr
  | [] => rfl
  | p :: r => by simp [toG, Gro.enc, gpr, tv, enc_toG r]
def rowsG : Gro → List GRow
  | .nil => []
  | .cons k s n r => ((k, s), n) :: rowsG r
theorem toG_rows : ∀ g : Gro, toG (rowsG g) = g
  | .nil => rfl
  | .cons k s n r => by simp [rowsG, toG, toG_rows r]
theorem rows_toG : ∀ rs : List GRow, rowsG (toG rs) = rs
  | [] => rfl
  | p :: r => by simp [rowsG, toG, rows_toG r]
theorem genc_rows (g : Gro) : g.enc = (rowsG g).map gpr := by rw [← enc_toG, toG_rows]
/-- rows of good trees -/
structure RG (d : Nat) (p : GRow) : Prop where
  nm : GS p.1.1 20
  gs : p.1.2.gs
  dep : p.1.2.dep ≤ d
theorem tv_ok {d : Nat} {p : GRow} (h : RG d p) : dOk (3 * d + 2) (tv p.1) := by
  have h1 : dOk (3 * d + 1) (.tup p.1.2.enc) := dOk_tup (Gro.ok_enc p.1.2 d h.gs h.dep)
  exact dOk_tup fun y hy => by
    rcases List.mem_cons.mp hy with rfl | hy
    · exact (dOk_str h.nm).up (by omega)
    · simp at hy
      rw [hy]
      exact h1
theorem gpr_ok {d : Nat} {p : GRow} (h : RG d p) : dOk (3 * d + 3) (gpr p) := dOk_tup fun y hy => by
  rcases List.mem_cons.mp hy with rfl | hy
  · exact tv_ok h
  · simp at hy
    rw [hy]
    exact (dOk_int _).up (by omega)
theorem tv_eq (S : Sto) {d : Nat} {p q : GRow} (hp : RG d p) (hq : RG d q) (hd : d ≤ 19) : eqR S (.v (tv p.1)) (.v (tv q.1)) = some (decide (p.1 = q.1)) := by
  rw [eqR_v S ((tv_ok hp).up (by omega)) ((tv_ok hq).up (by omega)) rfl rfl]
  obtain ⟨⟨k, g⟩, n⟩ := p
  obtain ⟨⟨k', g'⟩, n'⟩ := q
  simp only [tv, Val.pd, Val.pdL, PyData.eqv, PyData.eqvAll, Gro.eqv_enc]
  by_cases h1 : k = k' <;> by_cases h2 : g = g' <;> simp [h1, h2]
/-! ### tidying -/
def gle (a b : GRow) : Bool := !dataLt (gpr b).pd (gpr a).pd
def gsrt (rs : List GRow) : List GRow := rs.mergeSort gle
theorem sortV_g (rs : List GRow) : sortV (rs.map gpr) = (gsrt rs).map gpr := by
  unfold sortV gsrt
  rw [← List.map_mergeSort]
  intro a _ b _
  rfl
theorem gsrt_perm (rs : List GRow) : (gsrt rs).Perm rs := List.mergeSort_perm _ _
theorem sortOk_g (rs : List GRow) {d : Nat} (h : ∀ p ∈ rs, RG d p) (hd : d ≤ 18) (hl : rs.length ≤ 1000000) : sortOk (rs.map gpr) = true := by
  have h1 : Val.belL 0 (rs.map gpr) = true := (dOk_list (d := 3 * d + 3) fun x hx => by
    obtain ⟨p, hp, rfl⟩ := List.mem_map.mp hx
    exact gpr_ok (h p hp)).1
  have h4 : (rs.map gpr).length ≤ sizeLine := le_line (by rw [List.length_map]; omega)
  simp only [sortOk, h1, decide_eq_true h4, Bool.true_and, Bool.and_eq_true, Bool.and_true]
  refine ⟨⟨?_, ?_⟩, ?_⟩
  · simp only [List.all_eq_true]
    intro x hx y hy
    obtain ⟨p, _, rfl⟩ := List.mem_map.mp hx
    obtain ⟨q, _, rfl⟩ := List.mem_map.mp hy
    simp [gpr, tv, Val.pd, Val.pdL, alike, alikeAll, Gro.alike_enc]
  · simp only [Bool.or_eq_true, List.all_eq_true]
    left
    intro x hx
    obtain ⟨p, _, rfl⟩ := List.mem_map.mp hx
    rfl
  · simp only [List.all_eq_true]
    intro x hx
    obtain ⟨p, hp, rfl⟩ := List.mem_map.mp hx
    have := (gpr_ok (h p hp)).2.2
    simp only [decide_eq_true_eq]
    omega
def mrg (acc : List GRow) (x : GRow) : List GRow := match acc.getLast? with
  | some y => if y.1 = x.1 then acc.dropLast ++ [(x.1, x.2 + y.2)] else acc ++ [x]
  | none => acc ++ [x]
def tdy (rs : List GRow) : List GRow := (gsrt rs).foldl mrg []
theorem mrg_end (acc : List GRow) (y x : GRow) : mrg (acc ++ [y]) x = if y.1 = x.1 then acc ++ [(x.1, x.2 + y.2)] else acc ++ [y] ++ [x] := by
  simp [mrg]
theorem mrg_nil (x : GRow) : mrg [] x = [x] := rfl
theorem mrg_len (acc : List GRow) (x : GRow) : (mrg acc x).length ≤ acc.length + 1 := by
  rcases List.eq_nil_or_concat acc with rfl | ⟨a, y, rfl⟩
  · simp [mrg_nil]
  · rw [List.concat_eq_append, mrg_end]
    split <;> simp
theorem mrg_mem {acc : List GRow} {x z : GRow} (h : z ∈ mrg acc x) : z ∈ acc ∨ z.1 = x.1 := by
  rcases List.eq_nil_or_concat acc with rfl | ⟨a, y, rfl⟩
  · simp [mrg_nil] at h
    right
    rw [h]
  · rw [List.concat_eq_append] at h ⊢
    rw [mrg_end] at h
    split at h
    · rcases List.mem_append.mp h with h | h
      · left
        simp [h]
      · simp at h
        right
        rw [h]
    · rcases List.mem_append.mp h with h | h
      · left
        exact h
      · simp at h
        right
        rw [h]
theorem mrg_rg {d : Nat} {acc : List GRow} {x : GRow} (ha : ∀ p ∈ acc, RG d p) (hx : RG d x) : ∀ p ∈ mrg acc x, RG d p := by
  intro z hz
  rcases mrg_mem hz with h | h
  · exact ha z h
  · exact ⟨by rw [h]; exact hx.nm, by rw [h]; exact hx.gs, by rw [h]; exact hx.dep⟩
section
variable {P : Str → Option Fd} (k : Nat)
abbrev tidyB : Cs := g_tidy_l1
theorem tidy_loop (T : Fns) (f : Nat) (x0 : Option Val) {d : Nat} (hd : d ≤ 18) : ∀ (xs acc : List GRow) (S : Sto) (x2 x3 : Option Val), (∀ p ∈ xs, RG d p) → (∀ p ∈ acc, RG d p) → acc.length + xs.length ≤ 1000000 → S[f]? = some (.lst (acc.map gpr)) →
    ∃ x2' x3', forL (evB T tidyB) (.t [.n 2, .n 3]) [] (xs.map gpr) [x0, some (.ref f), x2, x3] S = .ok .nx [x0, some (.ref f), x2', x3'] (S.set f (.lst ((xs.foldl mrg acc).map gpr)))
  | [], acc, S, x2, x3, _, _, _, h => ⟨x2, x3, by simp [forL, set_eq h]⟩
  | x :: xs, acc, S, x2, x3, hx, ha, hl, h => by
    have hxx := hx x (by simp)
    simp only [List.length_cons] at hl
    have key : ∃ x3', evB T tidyB [x0, some (.ref f), some (tv x.1), some (.int x.2)] S = .ok .nx [x0, some (.ref f), some (tv x.1), x3'] (S.set f (.lst ((mrg acc x).map gpr))) := by
      have hb : tidyB = .cons (.ite (.and (.cmp .ne (.var 1) (.lst .nil)) (.cmp .eq (.ix (.ix (.var 1) (.neg (.cst (.int 1)))) (.cst (.int 0))) (.var 2))) (.cons (.set 3 (.fz (.bin .add (.var 3) (.ix (.met .pop (.var 1) .nil) (.cst (.int 1)))))) .nil) .nil) (.cons (.ex (.met .append (.var 1) (.cons (.tup (.cons (.fz (.var 2)) (.cons (.fz (.var 3)) .nil))) .nil))) (.kill [2, 3] .nil)) := rfl
      have E := ref_nil h (d := 3 * d + 3) (fun y hy => by
        obtain ⟨p, hp, rfl⟩ := List.mem_map.mp hy
        exact gpr_ok (ha p hp)) (by omega)
      rw [hb]
      rcases List.eq_nil_or_concat acc with rfl | ⟨a, y, rfl⟩
      · have E' : eqR S (.v (.ref f)) (.t (.lst [])) = some true := by rw [E]; rfl
        have ap := met_append h (by simp) (.tup [tv x.1, .int x.2])
        refine ⟨some (.int x.2), ?_⟩
        simp only [List.map_nil] at h
        simp [E', h, ap, mrg_nil, gpr]
      · rw [List.concat_eq_append] at h E ha hl ⊢
        have E' : eqR S (.v (.ref f)) (.t (.lst [])) = some false := by rw [E]; simp
        have hy := ha y (by simp)
        have ix1 : L2.atI ((a ++ [y]).map gpr) (-1) = some (gpr y) := by
          unfold L2.atI
          have e : L2.ixN ((a ++ [y]).map gpr).length (-1) = some a.length := by
            unfold L2.ixN
            rw [if_neg (by decide), if_pos (by simp only [List.length_map, List.length_append, List.length_cons, List.length_nil]; omega)]
            congr 1
            simp only [List.length_map, List.length_append, List.length_cons, List.length_nil]
            omega
          rw [e]
          simp
        have Q := tv_eq S hy hxx (by omega : d ≤ 19)
        have T1 : evT T (.and (.cmp .ne (.var 1) (.lst .nil)) (.cmp .eq (.ix (.ix (.var 1) (.neg (.cst (.int 1)))) (.cst (.int 0))) (.var 2))) [x0, some (.ref f), some (tv x.1), some (.int x.2)] S = .ok (decide (y.1 = x.1)) S := by
          have ix2 : L2.atI (List.map gpr a ++ [.tup [tv y.1, .int y.2]]) (-1) = some (.tup [tv y.1, .int y.2]) := by
            have := ix1
            simp only [List.map_append, List.map_cons, List.map_nil] at this
            exact this
          simp [E', h, ix2, gpr, Q]
        rw [mrg_end]
        by_cases hq : y.1 = x.1
        · have pp : metR .pop f [] S = some (.v (gpr y), S.set f (.lst (a.map gpr))) := by
            simp only [metR, h]
            simp
          have h' := set_got h (Ob.lst (a.map gpr))
          have ap := met_append h' (by simp only [List.length_map]; simp only [List.length_append, List.length_cons, List.length_nil] at hl; omega) (.tup [tv x.1, .int (x.2 + y.2)])
          refine ⟨some (.int (x.2 + y.2)), ?_⟩
          rw [evB_cons, evS_ite, T1, st_ok]
          simp [hq, h, pp, gpr, h', ap]
        · have ap := met_append h (by simp only [List.length_map]; omega) (.tup [tv x.1, .int x.2])
          refine ⟨some (.int x.2), ?_⟩
          rw [evB_cons, evS_ite, T1, st_ok]
          simp only [hq, decide_false, Bool.false_eq_true, if_false, evB_nil, sbind_nx]
          have h' := h
          simp only [List.map_append, List.map_cons, List.map_nil] at h' ap ⊢
          simp [h', ap, gpr]
    obtain ⟨x3', B⟩ := key
    have ml := mrg_len acc x
    obtain ⟨y2, y3, ih⟩ := tidy_loop T f x0 hd xs (mrg acc x) (S.set f (.lst ((mrg acc x).map gpr))) (some (tv x.1)) x3' (fun p hp => hx p (by simp [hp])) (mrg_rg ha hxx) (by omega) (set_got h _)
    refine ⟨y2, y3, ?_⟩
    rw [List.set_set] at ih
    have hg : gpr x = .tup [tv x.1, .int x.2] := rfl
    simp only [List.map_cons, forL, guardS_nil', hg, asgT_t, asgTs_cons, asgT_n, asgTs_nil, Option.bind_some, List.set_cons_succ, List.set_cons_zero, B, ih, List.foldl_cons]
theorem tidy_run (h2 : P "_law_tidy" = some g_tidy) {l : Nat} {S : Sto} {rs : List GRow} (hS : S[l]? = some (.lst (rs.map gpr))) {d : Nat} (hd : d ≤ 18) (h : ∀ p ∈ rs, RG d p) (hl : rs.length ≤ 1000000) :
    run P (k + 1) "_law_tidy" [.ref l] S = .ok (.v (toG (tdy rs)).v) (S ++ [.lst ((tdy rs).map gpr)]) := by
  have h1 := app_got (o' := .lst []) hS
  have so : blt1 (S ++ [.lst []]) .sorted (.v (.ref l)) = some (.t (.lst ((gsrt rs).map gpr))) := by
    simp only [blt1, seqOf, lstOf, lstW, h1, Option.bind_some, sortOk_g rs h hd hl, if_true, sortV_g]
  have pm := gsrt_perm rs
  obtain ⟨x2, x3, W⟩ := tidy_loop (run P k) S.length (some (.ref l)) hd (gsrt rs) [] (S ++ [.lst []]) none none (fun p hp => h p (pm.mem_iff.mp hp)) (by simp) (by simp [pm.length_eq]; omega) (got_end S _)
  have hset : (S ++ [Ob.lst []]).set S.length (.lst (((gsrt rs).foldl mrg []).map gpr)) = S ++ [.lst ((tdy rs).map gpr)] := by simp [tdy]
  rw [hset] at W
  have h3 : (S ++ [Ob.lst ((tdy rs).map gpr)])[S.length]? = some (.lst ((tdy rs).map gpr)) := got_end S _
  have tp : blt1 (S ++ [Ob.lst ((tdy rs).map gpr)]) .tuple (.v (.ref S.length)) = some (.v (.tup ((tdy rs).map gpr))) := by simp [blt1, seqOf, lstOf, lstW, h3]
  rw [run_ok h2 _ _ _ rfl]
  have hb : g_tidy.body = .cons (.set 1 (.lst .nil)) (.cons (.for (.t [(.n 2), (.n 3)]) (.e (.blt .sorted (.cons (.var 0) .nil))) tidyB) (.kill [2, 3] (.cons (.ret (.some (.blt .tuple (.cons (.var 1) .nil)))) .nil))) := rfl
  have hst : startE g_tidy.n [.ref l] = [some (.ref l), none, none, none] := rfl
  rw [hb, hst]
  simp [so, W, tp, Gro.v, enc_toG]
end
end Fe

/-! Gvd: what tidying keeps; the rows of a grove -/
namespace Fe
open PySem PySem.W
def rsm : List GRow → Int
  | [] => 0
  | p :: r => p.2 + rsm r
def grz : List GRow → Nat
  | [] => 0
  | p :: r => p.1.2.siz + grz r + 1
theorem rsm_app : ∀ a b : List GRow, rsm (a ++ b) = rsm a + rsm b
  | [], b => by simp [rsm]
  | x :: a, b => by simp only [List.cons_append, rsm, rsm_app a b]; omega
theorem grz_app : ∀ a b : List GRow, grz (a ++ b) = grz a + grz b
  | [], b => by simp [grz]
  | x :: a, b => by simp only [List.cons_append, grz, grz_app a b]; omega
theorem rsm_perm {a b : List GRow} (h : a.Perm b) : rsm a = rsm b := by
  induction h with
  | nil => rfl
  | cons x _ ih => simp only [rsm, ih]
  | swap x y l => simp only [rsm]; omega
  | trans _ _ i1 i2 => exact i1.trans i2
theorem grz_perm {a b : List GRow} (h : a.Perm b) : grz a = grz b := by
  induction h with
  | nil => rfl
  | cons x _ ih => simp only [grz, ih]
  | swap x y l => simp only [grz]; omega
  | trans _ _ i1 i2 => exact i1.trans i2
theorem grz_len : ∀ a : List GRow, a.length ≤ grz a
  | [] => Nat.le_refl _
  | x :: a => by have := grz_len a; simp only [List.length_cons, grz]; omega
theorem siz_toG : ∀ rs : List GRow, (toG rs).siz = grz rs
  | [] => rfl
  | p :: r => by simp only [toG, Gro.siz, grz, siz_toG r]
theorem sm_toG : ∀ rs : List GRow, (toG rs).sm = rsm rs
  | [] => rfl
  | p :: r => by simp only [toG, Gro.sm, rsm, sm_toG r]
theorem gs_toG : ∀ rs : List GRow, (∀ p ∈ rs, GS p.1.1 20 ∧ p.1.2.gs) → (toG rs).gs
  | [], _ => trivial
  | p :: r, h => ⟨(h p (by simp)).1, (h p (by simp)).2, gs_toG r fun q hq => h q (by simp [hq])⟩
theorem dep_toG (d : Nat) : ∀ rs : List GRow, (∀ p ∈ rs, p.1.2.dep + 1 ≤ d) → (toG rs).dep ≤ d
  | [], _ => by simp [toG, Gro.dep]
  | p :: r, h => by
    have h1 := h p (by simp)
    have h2 := dep_toG d r fun q hq => h q (by simp [hq])
    simp only [toG, Gro.dep]
    omega
theorem bnd_toG (B : Int) : ∀ rs : List GRow, (∀ p ∈ rs, 1 ≤ p.2 ∧ p.1.2.sm ≤ B ∧ p.1.2.bnd B) → (toG rs).bnd B
  | [], _ => trivial
  | p :: r, h => ⟨(h p (by simp)).1, (h p (by simp)).2.1, (h p (by simp)).2.2, bnd_toG B r fun q hq => h q (by simp [hq])⟩
theorem mrg_sm (acc : List GRow) (x : GRow) : rsm (mrg acc x) = rsm acc + x.2 := by
  rcases List.eq_nil_or_concat acc with rfl | ⟨a, y, rfl⟩
  · simp [mrg_nil, rsm]
  · rw [List.concat_eq_append, mrg_end]
    split <;> simp only [rsm_app, rsm] <;> omega
theorem mrg_grz (acc : List GRow) (x : GRow) : grz (mrg acc x) ≤ grz acc + (x.1.2.siz + 1) := by
  rcases List.eq_nil_or_concat acc with rfl | ⟨a, y, rfl⟩
  · simp [mrg_nil, grz]
  · rw [List.concat_eq_append, mrg_end]
    split <;> simp only [grz_app, grz] <;> omega
theorem mrg_pos {acc : List GRow} {x : GRow} (ha : ∀ p ∈ acc, 1 ≤ p.2) (hx : 1 ≤ x.2) : ∀ p ∈ mrg acc x, 1 ≤ p.2 := by
  intro p hp
  rcases List.eq_nil_or_concat acc with rfl | ⟨a, y, rfl⟩
  · simp [mrg_nil] at hp
    rw [hp]
    exact hx
  · rw [List.concat_eq_append] at hp ha
    rw [mrg_end] at hp
    have hy := ha y (by simp)
    split at hp
    · rcases List.mem_append.mp hp with h | h
      · exact ha p (by simp [h])
      · simp at h
        rw [h]
        show 1 ≤ x.2 + y.2
        omega
    · rcases List.mem_append.mp hp with h | h
      · exact ha p h
      · simp at h
        rw [h]
        exact hx
theorem fold_sm : ∀ (xs acc : List GRow), rsm (xs.foldl mrg acc) = rsm acc + rsm xs
  | [], acc => by simp [rsm]
  | x :: xs, acc => by rw [List.foldl_cons, fold_sm xs, mrg_sm]; simp only [rsm]; omega
theorem fold_grz : ∀ (xs acc : List GRow), grz (xs.foldl mrg acc) ≤ grz acc + grz xs
  | [], acc => by simp [grz]
  | x :: xs, acc => by
    have h1 := fold_grz xs (mrg acc x)
    have h2 := mrg_grz acc x
    rw [List.foldl_cons]
    simp only [grz]
    omega
theorem fold_pos : ∀ (xs acc : List GRow), (∀ p ∈ acc, 1 ≤ p.2) → (∀ p ∈ xs, 1 ≤ p.2) → ∀ p ∈ xs.foldl mrg acc, 1 ≤ p.2
  | [], acc, ha, _ => ha
  | x :: xs, acc, ha, hx => fold_pos xs _ (mrg_pos ha (hx x (by simp))) fun p hp => hx p (by simp [hp])
theorem fold_mem : ∀ (xs acc : List GRow) (z : GRow), z ∈ xs.foldl mrg acc → ∃ x ∈ acc ++ xs, z.1 = x.1
  | [], acc, z, h => ⟨z, by simpa using h, rfl⟩
  | x :: xs, acc, z, h => by
    obtain ⟨y, hy, e⟩ := fold_mem xs (mrg acc x) z h
    rcases List.mem_append.mp hy with hy | hy
    · rcases mrg_mem hy with hy | hy
      · exact ⟨y, by simp [hy], e⟩
      · exact ⟨x, by simp, e.trans hy⟩
    · exact ⟨y, by simp [hy], e⟩
theorem tdy_sm (rs : List GRow) : rsm (tdy rs) = rsm rs := by
  unfold tdy
  rw [fold_sm, rsm_perm (gsrt_perm rs)]
  simp [rsm]
theorem tdy_grz (rs : List GRow) : grz (tdy rs) ≤ grz rs := by
  have := fold_grz (gsrt rs) []
  rw [grz_perm (gsrt_perm rs)] at this
  simpa [grz, tdy] using this
theorem tdy_pos {rs : List GRow} (h : ∀ p ∈ rs, 1 ≤ p.2) : ∀ p ∈ tdy rs, 1 ≤ p.2 := fold_pos _ _ (by simp) fun p hp => h p ((gsrt_perm rs).mem_iff.mp hp)
theorem tdy_mem {rs : List GRow} {z : GRow} (h : z ∈ tdy rs) : ∃ x ∈ rs, z.1 = x.1 := by
  obtain ⟨x, hx, e⟩ := fold_mem _ _ z h
  exact ⟨x, (gsrt_perm rs).mem_iff.mp (by simpa using hx), e⟩
/-- made by tidying, at all depths -/
inductive Td : Gro → Prop
  | mk (rs : List GRow) : (∀ p ∈ rs, Td p.1.2) → Td (toG (tdy rs))
/-- a good row: its tree d deep at most -/
structure RQ (B C : Int) (d : Nat) (p : GRow) : Prop where
  nm : GS p.1.1 20
  gs : p.1.2.gs
  dep : p.1.2.dep + 1 ≤ d
  sm : p.1.2.sm ≤ B
  bnd : p.1.2.bnd B
  td : Td p.1.2
  lo : 1 ≤ p.2
  hi : p.2 ≤ C
/-- a good grove -/
structure GG (B : Int) (d z : Nat) (g : Gro) : Prop where
  gs : g.gs
  dep : g.dep ≤ d
  siz : g.siz ≤ z
  sm : g.sm ≤ B
  bnd : g.bnd B
  td : Td g
theorem rsm_le {C : Int} (hC : 0 ≤ C) : ∀ rs : List GRow, (∀ p ∈ rs, p.2 ≤ C) → rsm rs ≤ rs.length * C
  | [], _ => by simp [rsm]
  | p :: r, h => by
    have h1 := h p (by simp)
    have h2 := rsm_le hC r fun q hq => h q (by simp [hq])
    simp only [rsm, List.length_cons]
    have : ((r.length + 1 : Nat) : Int) * C = r.length * C + C := by rw [Int.natCast_add, Int.add_mul]; simp
    omega
theorem gg_of {B C : Int} {d z : Nat} {rs : List GRow} (h : ∀ p ∈ rs, RQ B C d p) (hz : grz rs ≤ z) (hC : 0 ≤ C) (hB : z * C ≤ B) : GG B d z (toG (tdy rs)) := by
  have mem : ∀ p ∈ tdy rs, ∃ x ∈ rs, p.1 = x.1 := fun p hp => tdy_mem hp
  refine ⟨gs_toG _ fun p hp => ?_, dep_toG _ _ fun p hp => ?_, ?_, ?_, bnd_toG _ _ fun p hp => ?_, .mk rs fun p hp => (h p hp).td⟩
  · obtain ⟨x, hx, e⟩ := mem p hp
    rw [e]
    exact ⟨(h x hx).nm, (h x hx).gs⟩
  · obtain ⟨x, hx, e⟩ := mem p hp
    rw [e]
    exact (h x hx).dep
  · rw [siz_toG]
    exact Nat.le_trans (tdy_grz rs) hz
  · rw [sm_toG, tdy_sm]
    have h1 := rsm_le hC rs fun p hp => (h p hp).hi
    have h2 := grz_len rs
    have h3 : (rs.length : Int) * C ≤ z * C := Int.mul_le_mul_of_nonneg_right (by omega) hC
    omega
  · obtain ⟨x, hx, e⟩ := mem p hp
    refine ⟨tdy_pos (fun q hq => (h q hq).lo) p hp, ?_, ?_⟩
    · rw [e]; exact (h x hx).sm
    · rw [e]; exact (h x hx).bnd
/-! ### the rows -/
abbrev Rw := Int × Str × Int
def rwv (r : Rw) : Val := .tup [.int r.1, .str r.2.1, .int r.2.2]
def dpv (d : Nat) : Val := .int d
structure RwOk (low : Nat) (C : Int) (rows : List Rw) (ds : List Nat) : Prop where
  len : ds.length = rows.length
  each : ∀ (j : Nat) (r : Rw), rows[j]? = some r → GS r.2.1 20 ∧ 1 ≤ r.2.2 ∧ r.2.2 ≤ C ∧ ∃ dj, ds[j]? = some dj ∧ dj ≤ low ∧ ((r.1 = -1 ∧ dj = 1) ∨ ∃ h : Nat, r.1 = h ∧ h < j ∧ ∃ dh, ds[h]? = some dh ∧ dj = dh + 1)
theorem RwOk.nil (low : Nat) (C : Int) : RwOk low C [] [] := ⟨rfl, fun j r h => by simp at h⟩
theorem RwOk.add {low : Nat} {C : Int} {rows : List Rw} {ds : List Nat} (h : RwOk low C rows ds) (hl : 1 ≤ low) {r : Rw} {d : Nat} (h1 : GS r.2.1 20) (h2 : 1 ≤ r.2.2) (h3 : r.2.2 ≤ C) (h4 : (r.1 = -1 ∧ d = 1) ∨ ∃ h : Nat, r.1 = h ∧ h < rows.length ∧ ∃ dh, ds[h]? = some dh ∧ dh < low ∧ d = dh + 1) : RwOk low C (rows ++ [r]) (ds ++ [d]) := by
  refine ⟨by simp [h.len], fun j r' hj => ?_⟩
  by_cases hjl : j < rows.length
  · rw [List.getElem?_append_left hjl] at hj
    obtain ⟨a1, a2, a3, dj, a4, a5, a6⟩ := h.each j r' hj
    refine ⟨a1, a2, a3, dj, by rw [List.getElem?_append_left (by rw [h.len]; exact hjl)]; exact a4, a5, ?_⟩
    rcases a6 with a6 | ⟨q, a6, a7, dh, a8, a9⟩
    · exact .inl a6
    · exact .inr ⟨q, a6, a7, dh, by rw [List.getElem?_append_left (by rw [h.len]; omega)]; exact a8, a9⟩
  · have hj2 := got_lt hj
    simp only [List.length_append, List.length_cons, List.length_nil] at hj2
    have e : j = rows.length := by omega
    subst e
    have e2 : r' = r := by simpa using hj.symm
    subst e2
    refine ⟨h1, h2, h3, d, by rw [← h.len]; simp, ?_, ?_⟩
    · rcases h4 with ⟨_, h4⟩ | ⟨_, _, _, dh, _, h5, h6⟩ <;> omega
    · rcases h4 with h4 | ⟨q, q1, q2, dh, q3, q4, q5⟩
      · exact .inl h4
      · exact .inr ⟨q, q1, q2, dh, by rw [List.getElem?_append_left (by rw [h.len]; omega)]; exact q3, q5⟩
theorem list_ix {α : Type} (f : α → Val) {S : Sto} {r : Nat} {xs : List α} (h : S[r]? = some (.lst (xs.map f))) {j : Nat} {x : α} (hj : xs[j]? = some x) : ixR S (.v (.ref r)) (j : Int) = some (f x) := by rw [ix_ref h, at_map f hj]
/-! ### the rows, plainly -/
/-- the holder that is drawn, or none where it lies too deep -/
def hldF (low : Nat) (ds : List Nat) (v : Int) : Int := if 0 ≤ v - 1 ∧ low ≤ (ds[(v - 1).toNat]?).getD 0 then -1 else v - 1
def mnyF (C u : Int) : Int := if u = 2 then 3 else if u = 3 then C else 1
def rowF (ns : List Int) (first : Nat) (names : List Str) (C : Int) (low : Nat) (st : List Rw × List Nat) : List Rw × List Nat :=
  let i := st.1.length
  let p0 := pz ns (first + i)
  let h := hldF low st.2 (p0.dr ((i : Int) + 1))
  let p1 := p0.nx ((i : Int) + 1)
  let kd := (names[(p1.dr names.length).toNat]?).getD Str.empty
  let p2 := p1.nx names.length
  let p3 := p2.nx 4
  let c := 1 + p3.dr (mnyF C (p2.dr 4))
  (st.1 ++ [(h, kd, c)], st.2 ++ [if h < 0 then 1 else (st.2[h.toNat]?).getD 0 + 1])
def rowsF (ns : List Int) (first : Nat) (names : List Str) (C : Int) (low : Nat) : Nat → List Rw × List Nat
  | 0 => ([], [])
  | i + 1 => rowF ns first names C low (rowsF ns first names C low i)
theorem rowsF_len (ns : List Int) (first : Nat) (names : List Str) (C : Int) (low : Nat) : ∀ i, (rowsF ns first names C low i).1.length = i
  | 0 => rfl
  | i + 1 => by simp [rowsF, rowF, rowsF_len ns first names C low i]
/-- what a number may be -/
def mxC (C : Int) : Int := if C < 3 then 3 else C
theorem mxC_3 (C : Int) : 3 ≤ mxC C := by unfold mxC; split <;> omega
theorem mxC_ge (C : Int) : C ≤ mxC C := by unfold mxC; split <;> omega
theorem mxC_le {C : Int} (h : C ≤ 10 ^ 60) : mxC C ≤ 10 ^ 60 := by unfold mxC; split <;> omega
theorem mnyF_b {C u : Int} (hC : 1 ≤ C) : 1 ≤ mnyF C u ∧ mnyF C u ≤ mxC C := by
  have := mxC_3 C
  have := mxC_ge C
  unfold mnyF
  split
  · omega
  · split <;> omega
theorem hldF_ok {low : Nat} {ds : List Nat} {v : Int} (h0 : 0 ≤ v) (hv : v ≤ ds.length) : hldF low ds v = -1 ∨ ∃ hn : Nat, hldF low ds v = hn ∧ hn < ds.length ∧ ∃ dh, ds[hn]? = some dh ∧ dh < low := by
  unfold hldF
  split
  · exact .inl rfl
  · rename_i hh
    by_cases h1 : v = 0
    · left; omega
    · right
      refine ⟨(v - 1).toNat, by omega, by omega, ?_⟩
      have hl : (v - 1).toNat < ds.length := by omega
      refine ⟨ds[(v - 1).toNat], List.getElem?_eq_getElem hl, ?_⟩
      rw [List.getElem?_eq_getElem hl] at hh
      simp only [Option.getD_some] at hh
      omega
theorem rowsF_ok (ns : List Int) (first : Nat) {names : List Str} {C : Int} {low : Nat} (hn1 : 1 ≤ names.length) (hng : ∀ s ∈ names, GS s 20) (hC : 1 ≤ C) (hl : 1 ≤ low) : ∀ i, RwOk low (mxC C) (rowsF ns first names C low i).1 (rowsF ns first names C low i).2
  | 0 => RwOk.nil low _
  | i + 1 => by
    have ih := rowsF_ok ns first hn1 hng hC hl i
    have il := rowsF_len ns first names C low i
    have dl := ih.len
    simp only [rowsF, rowF]
    rw [il]
    let p0 := pz ns (first + i)
    have d0 := p0.dr_lt (m := (i : Int) + 1) (by omega)
    let p1 := p0.nx ((i : Int) + 1)
    have d1 := p1.dr_lt (m := names.length) (by omega)
    have hk : (p1.dr names.length).toNat < names.length := by omega
    let p2 := p1.nx names.length
    have mb := mnyF_b (C := C) (u := p2.dr 4) hC
    let p3 := p2.nx 4
    have d3 := p3.dr_lt (m := mnyF C (p2.dr 4)) (by omega)
    refine ih.add hl ?_ ?_ ?_ ?_
    · show GS ((names[(p1.dr names.length).toNat]?).getD Str.empty) 20
      rw [List.getElem?_eq_getElem hk]
      exact hng _ (List.getElem_mem _)
    · show 1 ≤ 1 + p3.dr (mnyF C (p2.dr 4)); omega
    · show 1 + p3.dr (mnyF C (p2.dr 4)) ≤ mxC C; omega
    · rcases hldF_ok (low := low) (ds := (rowsF ns first names C low i).2) (v := p0.dr ((i : Int) + 1)) d0.1 (by omega) with e | ⟨hn, e, h1, dh, h2, h3⟩
      · left
        refine ⟨e, ?_⟩
        rw [if_pos (by rw [e]; decide)]
      · right
        refine ⟨hn, e, by omega, dh, h2, h3, ?_⟩
        rw [if_neg (by rw [e]; omega), e]
        simp [h2]
section
variable {P : Str → Option Fd} (k : Nat)
def grB1 : Cs := forOf (nthCs g_grove.body 2)
structure R1 (ns : List Int) (S0 : Sto) (first many : Nat) (names : List Str) (C : Int) (low : Nat) (r6 r7 : Nat) (i : Nat) (env : Env) (S : Sto) : Prop where
  env : ∃ x8 x10 x11 x12 x13, env = [some (.fls (ns.map Val.int)), some (.int first), some (.int many), some (.fls (names.map Val.str)), some (.int C), some (.int low), some (.ref r6), some (.ref r7), x8, none, x10, x11, x12, x13, none]
  fr : Fr [r6, r7] S0 S
  h6 : S[r6]? = some (.lst ((rowsF ns first names C low i).1.map rwv))
  h7 : S[r7]? = some (.lst ((rowsF ns first names C low i).2.map dpv))
theorem take_at (ht : P "_law_take" = some g_take) (S : Sto) (p : Pu) (m : Int) (hm : 0 < m) (hm' : m ≤ 10 ^ 60) : run P (k + 1) "_law_take" [.ref S.length, .int m] (S ++ [p.ob]) = .ok (.v (.int (p.dr m))) (S ++ [(p.nx m).ob]) := by
  have := gtake_run (P := P) k (S ++ [p.ob]) ht (l := S.length) (p := p) (by simp) m hm hm'
  rw [this]
  simp
theorem grove_r1 (hp : P "_law_purse" = some g_purse) (ht : P "_law_take" = some g_take) {ns : List Int} {S0 : Sto} {first many : Nat} {names : List Str} {C : Int} {low r6 r7 : Nat} (hn1 : 1 ≤ names.length) (hn2 : names.length ≤ 8) (hng : ∀ s ∈ names, GS s 20) (hC : 1 ≤ C) (hC' : C ≤ 10 ^ 60) (hl : 1 ≤ low) (hm : first + many ≤ 10000) (h67 : r6 ≠ r7) (i : Nat) (hi : i < many) (env : Env) (S : Sto) (R : R1 ns S0 first many names C low r6 r7 i env S) :
    ∃ env1, asgT (.n 8) (.int (0 + (i : Int))) env = some env1 ∧ ∃ env2 S2, evB (run P (k + 1)) grB1 env1 S = .ok .nx env2 S2 ∧ R1 ns S0 first many names C low r6 r7 (i + 1) env2 S2 := by
  obtain ⟨x8, x10, x11, x12, x13, rfl⟩ := R.env
  have hr := rowsF_ok ns first hn1 hng hC hl i
  have hrl := rowsF_len ns first names C low i
  have h6 := R.h6
  have h7 := R.h7
  have stp : rowsF ns first names C low (i + 1) = rowF ns first names C low (rowsF ns first names C low i) := rfl
  generalize hst : rowsF ns first names C low i = st at *
  obtain ⟨rows, ds⟩ := st
  simp only at hr hrl h6 h7 hst stp
  rw [Int.zero_add]
  refine ⟨_, rfl, ?_⟩
  simp only [List.set_cons_succ, List.set_cons_zero]
  have l6 := got_lt h6
  have l7 := got_lt h7
  let p0 := pz ns (first + i)
  have d0 := p0.dr_lt (m := (i : Int) + 1) (by omega)
  let p1 := p0.nx ((i : Int) + 1)
  have d1 := p1.dr_lt (m := names.length) (by omega)
  let p2 := p1.nx names.length
  have d2 := p2.dr_lt (m := 4) (by decide)
  have mb := mnyF_b (C := C) (u := p2.dr 4) hC
  have mx6 := mxC_le hC'
  let p3 := p2.nx 4
  let p4 := p3.nx (mnyF C (p2.dr 4))
  have c1 : run P (k + 1) "_law_purse" [.fls (ns.map Val.int), .int ((first : Int) + (i : Int))] S = .ok (.t p0.ob) S := by
    have := gpurse_run (P := P) k S hp ns (first + i) (by omega)
    rwa [show ((first + i : Nat) : Int) = (first : Int) + (i : Int) by omega] at this
  have t1 := take_at (P := P) k ht S p0 ((i : Int) + 1) (by omega) (by omega)
  have t2 := take_at (P := P) k ht S p1 names.length (by omega) (by omega)
  have t3 := take_at (P := P) k ht S p2 4 (by decide) (by decide)
  have t4 := take_at (P := P) k ht S p3 (mnyF C (p2.dr 4)) (by omega) (by omega)
  let h := hldF low ds (p0.dr ((i : Int) + 1))
  have hh := hldF_ok (low := low) (ds := ds) (v := p0.dr ((i : Int) + 1)) d0.1 (by rw [hr.len, hrl]; omega)
  have g6 : ∀ x : Ob, (S ++ [x])[r6]? = some (.lst (rows.map rwv)) := fun x => app_got h6
  have g7 : ∀ x : Ob, (S ++ [x])[r7]? = some (.lst (ds.map dpv)) := fun x => app_got h7
  have hk : (p1.dr names.length).toNat < names.length := by omega
  let kd := (names[(p1.dr names.length).toNat]?).getD Str.empty
  have ixn : L2.atI (names.map Val.str) (p1.dr names.length) = some (.str kd) := by
    have e : p1.dr names.length = ((p1.dr names.length).toNat : Int) := by omega
    rw [e]
    refine at_map Val.str ?_
    simp only [kd]
    rw [List.getElem?_eq_getElem hk]
    rfl
  have ixm : L2.atI [Val.int 1, .int 1, .int 3, .int C] (p2.dr 4) = some (.int (mnyF C (p2.dr 4))) := by
    have : p2.dr 4 = 0 ∨ p2.dr 4 = 1 ∨ p2.dr 4 = 2 ∨ p2.dr 4 = 3 := by omega
    unfold mnyF
    rcases this with e | e | e | e <;> rw [e] <;> rfl
  have rl : rows.length < 16000000 := by omega
  have dl : ds.length < 16000000 := by rw [hr.len]; omega
  let A : Nat → Option Val → Option Val → Option Val → Env := fun j x11 x12 x13 => [some (.fls (ns.map Val.int)), some (.int first), some (.int many), some (.fls (names.map Val.str)), some (.int C), some (.int low), some (.ref r6), some (.ref r7), some (.int i), none, some (.ref j), x11, x12, x13, none]
  have s1 : evS (run P (k + 1)) (nthCs grB1 0) [some (.fls (ns.map Val.int)), some (.int first), some (.int many), some (.fls (names.map Val.str)), some (.int C), some (.int low), some (.ref r6), some (.ref r7), some (.int i), none, x10, x11, x12, x13, none] S = .ok .nx (A S.length x11 x12 x13) (S ++ [p0.ob]) := by
    simp [nthCs, grB1, g_grove, forOf, c1, A]
  have s2 : evS (run P (k + 1)) (nthCs grB1 1) (A S.length x11 x12 x13) (S ++ [p0.ob]) = .ok .nx (A S.length (some (.int (p0.dr ((i : Int) + 1) - 1))) x12 x13) (S ++ [p1.ob]) := by
    simp [nthCs, grB1, g_grove, forOf, t1, A, p1]
  have s3 : evS (run P (k + 1)) (nthCs grB1 2) (A S.length (some (.int (p0.dr ((i : Int) + 1) - 1))) x12 x13) (S ++ [p1.ob]) = .ok .nx (A S.length (some (.int h)) x12 x13) (S ++ [p1.ob]) := by
    by_cases h0 : p0.dr ((i : Int) + 1) = 0
    · have e : h = -1 := by simp only [h, hldF, h0]; rw [if_neg (by omega)]; rfl
      rw [e, h0]
      simp [nthCs, grB1, g_grove, forOf, A]
    · obtain ⟨hn, hhn⟩ : ∃ hn : Nat, p0.dr ((i : Int) + 1) - 1 = hn := ⟨(p0.dr ((i : Int) + 1) - 1).toNat, by omega⟩
      have hlt2 : hn < ds.length := by rw [hr.len]; omega
      have ix := list_ix dpv (g7 p1.ob) (List.getElem?_eq_getElem hlt2)
      have eh : h = if low ≤ ds[hn] then -1 else (hn : Int) := by
        simp only [h, hldF, hhn, Int.toNat_natCast, List.getElem?_eq_getElem hlt2, Option.getD_some]
        by_cases q : low ≤ ds[hn]
        · rw [if_pos ⟨by omega, q⟩, if_pos q]
        · rw [if_neg (fun z => q z.2), if_neg q]
      rw [hhn, eh]
      rw [ix_rf, g7] at ix
      simp only at ix
      by_cases q : low ≤ ds[hn]
      · have q' : (low : Int) ≤ ds[hn] := by omega
        simp [nthCs, grB1, g_grove, forOf, A, g7, ix, dpv, q, q']
      · have q' : ¬ (low : Int) ≤ ds[hn] := by omega
        simp [nthCs, grB1, g_grove, forOf, A, g7, ix, dpv, q, q']
  have s4 : evS (run P (k + 1)) (nthCs grB1 3) (A S.length (some (.int h)) x12 x13) (S ++ [p1.ob]) = .ok .nx (A S.length (some (.int h)) (some (.str kd)) x13) (S ++ [p2.ob]) := by
    simp [nthCs, grB1, g_grove, forOf, A, t2, ixn, p2]
  have s5 : evS (run P (k + 1)) (nthCs grB1 4) (A S.length (some (.int h)) (some (.str kd)) x13) (S ++ [p2.ob]) = .ok .nx (A S.length (some (.int h)) (some (.str kd)) (some (.int (1 + p3.dr (mnyF C (p2.dr 4)))))) (S ++ [p4.ob]) := by
    simp [nthCs, grB1, g_grove, forOf, A, t3]
    simp only [p3] at t4
    simp [ixm, t4, p4, p3]
  let c := 1 + p3.dr (mnyF C (p2.dr 4))
  let x : Rw := (h, kd, c)
  let S6 : Sto := (S ++ [p4.ob]).set r6 (.lst ((rows ++ [x]).map rwv))
  have ap6 := met_append (g6 p4.ob) (by simpa using rl) (.tup [.int h, .str kd, .int c])
  have s6 : evS (run P (k + 1)) (nthCs grB1 5) (A S.length (some (.int h)) (some (.str kd)) (some (.int c))) (S ++ [p4.ob]) = .ok .nx (A S.length (some (.int h)) (some (.str kd)) (some (.int c))) S6 := by
    simp only [nthCs, grB1, g_grove, forOf, evS_ex, evE_met, evE_var, A, List.getElem?_cons_succ, List.getElem?_cons_zero, bind_ok, g6]
    simp [ap6, S6, rwv, x]
  have g67 : S6[r7]? = some (.lst (ds.map dpv)) := set_ne (g7 _) h67
  let d : Nat := if h < 0 then 1 else (ds[h.toNat]?).getD 0 + 1
  let S7 : Sto := S6.set r7 (.lst ((ds ++ [d]).map dpv))
  have add : binR S6 .add (.t (.lst [.int 0])) (.v (.ref r7)) = some (.t (.lst (.int 0 :: ds.map dpv))) := by
    have : ([Val.int 0] : List Val).length + (ds.map dpv).length ≤ sizeLine := le_line (by simp; omega)
    simp only [binR, addR, lstW, g67, if_pos this, List.cons_append, List.nil_append]
  have s7 : evS (run P (k + 1)) (nthCs grB1 6) (A S.length (some (.int h)) (some (.str kd)) (some (.int c))) S6 = .ok .nx (A S.length (some (.int h)) (some (.str kd)) (some (.int c))) S7 := by
    have ap7 := fun z => met_append g67 (by simpa using dl) (.int z)
    rcases hh with e | ⟨hn, e, h1, dh, h2, h3⟩
    · have e' : h = -1 := e
      have ed : d = 1 := by simp only [d]; rw [if_pos (by omega)]
      simp only [nthCs, grB1, g_grove, forOf, evS_ex, evE_met, evE_var, A, List.getElem?_cons_succ, List.getElem?_cons_zero, bind_ok, g67, e']
      simp [add, ap7, dpv, S7, ed]
    · have e' : h = (hn : Int) := e
      have ed : d = dh + 1 := by simp only [d]; rw [if_neg (by omega), e']; simp [h2]
      have ix : L2.atI (.int 0 :: ds.map dpv) ((hn : Int) + 1) = some (.int (dh : Int)) := by
        have : (Val.int 0 :: ds.map dpv)[hn + 1]? = some (.int (dh : Int)) := by simp [h2, dpv]
        have := L2.atI_nat this
        rwa [Int.natCast_add] at this
      simp only [nthCs, grB1, g_grove, forOf, evS_ex, evE_met, evE_var, A, List.getElem?_cons_succ, List.getElem?_cons_zero, bind_ok, g67, e']
      simp [add, ap7, dpv, S7, ed, ix, Int.add_comm]
  have hb : grB1 = .cons (nthCs grB1 0) (.cons (nthCs grB1 1) (.cons (nthCs grB1 2) (.cons (nthCs grB1 3) (.cons (nthCs grB1 4) (.cons (nthCs grB1 5) (.cons (nthCs grB1 6) .nil)))))) := rfl
  have res : rowF ns first names C low (rows, ds) = (rows ++ [x], ds ++ [d]) := by
    simp only [rowF, hrl]
    rfl
  refine ⟨A S.length (some (.int h)) (some (.str kd)) (some (.int c)), S7, ?_, ⟨⟨_, _, _, _, _, rfl⟩, ?_, ?_, ?_⟩⟩
  · rw [hb, evB_cons, s1, sbind_nx, evB_cons, s2, sbind_nx, evB_cons, s3, sbind_nx, evB_cons, s4, sbind_nx, evB_cons, s5, sbind_nx, evB_cons, s6, sbind_nx, evB_cons, s7, sbind_nx, evB_nil]
  · exact ((R.fr.trans (Fr.app S _)).trans (Fr.set (S ++ [p4.ob]) _ (by simp))).trans (Fr.set S6 _ (by simp))
  · rw [stp, res]
    exact set_ne (set_got (g6 _) _) (fun z => h67 z.symm)
  · rw [stp, res]
    exact set_got g67 _
end
end Fe

/-! Gve: the law's groves -/
namespace Fe
open PySem PySem.W
theorem comp_new (cond : Env → Sto → Res Bool) (elt : Env → Sto → Res Rv) (i : Nat) (env : Env) (hc : ∀ e S, cond e S = .ok true S) (he : ∀ e S, elt e S = .ok (.t (.lst [])) S) : ∀ (xs acc : List Val) (S : Sto), compL cond elt (.n i) env [] xs acc S = .ok (.t (.lst (acc ++ (List.range' S.length xs.length).map Val.ref))) (S ++ List.replicate xs.length (.lst []))
  | [], acc, S => by simp [compL]
  | x :: xs, acc, S => by
    rw [compL]
    simp only [guardL_nil', asgT_n, hc, he, bind_ok, lay_t, if_true]
    rw [comp_new cond elt i env hc he xs]
    simp [List.range'_succ, List.replicate_succ]
def gt : Nat → (Nat → List GRow) → Nat
  | 0, _ => 0
  | n + 1, hs => gt n hs + grz (hs n)
def upd' (hs : Nat → List GRow) (i : Nat) (y : List GRow) : Nat → List GRow := fun j => if j = i then y else hs j
theorem upd_same (hs : Nat → List GRow) (i : Nat) (y : List GRow) : upd' hs i y i = y := by simp [upd']
theorem upd_ne' (hs : Nat → List GRow) {i j : Nat} (y : List GRow) (h : j ≠ i) : upd' hs i y j = hs j := by simp [upd', h]
theorem gt_le : ∀ (n : Nat) (hs : Nat → List GRow) (i : Nat) (y : List GRow), n ≤ i → gt n (upd' hs i y) = gt n hs
  | 0, _, _, _, _ => rfl
  | n + 1, hs, i, y, h => by simp only [gt, gt_le n hs i y (by omega), upd_ne' hs y (by omega : n ≠ i)]
theorem gt_upd : ∀ (n : Nat) (hs : Nat → List GRow) (i : Nat) (y : List GRow), i < n → gt n (upd' hs i y) + grz (hs i) = gt n hs + grz y
  | 0, _, _, _, h => by omega
  | n + 1, hs, i, y, h => by
    by_cases hi : i = n
    · subst hi
      simp only [gt, gt_le i hs i y (Nat.le_refl _), upd_same]
      omega
    · have := gt_upd n hs i y (by omega)
      simp only [gt, upd_ne' hs y (fun q => hi q.symm : n ≠ i)]
      omega
theorem gt_mem : ∀ (n : Nat) (hs : Nat → List GRow) (i : Nat), i < n → grz (hs i) ≤ gt n hs
  | 0, _, _, h => by omega
  | n + 1, hs, i, h => by
    by_cases hi : i = n
    · subst hi
      simp only [gt]
      omega
    · have := gt_mem n hs i (by omega)
      simp only [gt]
      omega
theorem gt_nil : ∀ n : Nat, gt n (fun _ => []) = 0
  | 0 => rfl
  | n + 1 => by simp [gt, gt_nil n, grz]
/-- a loop over a range, backwards -/
theorem for_down (body : Env → Sto → SR) (i8 : Nat) (I : Nat → Env → Sto → Prop) (hb : ∀ (i : Nat) (env : Env) (S : Sto), I (i + 1) env S → ∃ env2 S2, body (env.set i8 (some (.int (i : Int)))) S = .ok .nx env2 S2 ∧ I i env2 S2) :
    ∀ (n : Nat) (env : Env) (S : Sto), I n env S → ∃ env' S', forL body (.n i8) [] (rngL 0 n).reverse env S = .ok .nx env' S' ∧ I 0 env' S'
  | 0, env, S, hI => ⟨env, S, by simp [forL, rngL], hI⟩
  | n + 1, env, S, hI => by
    obtain ⟨env2, S2, h2, h3⟩ := hb n env S hI
    obtain ⟨env', S', h4, h5⟩ := for_down body i8 I hb n env2 S2 h3
    refine ⟨env', S', ?_, h5⟩
    have e : (rngL 0 (n + 1)).reverse = .int (n : Int) :: (rngL 0 n).reverse := by
      simp [rngL, List.range_succ]
    rw [e]
    simp only [forL, guardS_nil', asgT_n, h2, h4]
def hnF (many : Nat) (h : Int) : Nat := if h < 0 then many else h.toNat
def stpH (rows : List Rw) (many i : Nat) (hs : Nat → List GRow) : Nat → List GRow := match rows[i]? with
  | some (h, kd, c) => upd' (upd' hs i []) (hnF many h) (hs (hnF many h) ++ [((kd, toG (tdy (hs i))), c)])
  | none => hs
/-- what stands in each one, so many rows put in from the last on -/
def hsN (rows : List Rw) (many : Nat) : Nat → Nat → List GRow
  | 0 => fun _ => []
  | n + 1 => stpH rows many (many - 1 - n) (hsN rows many n)
/-- how deep the holder lies -/
def dpt (many : Nat) (ds : List Nat) (j : Nat) : Nat := if j = many then 0 else ds[j]?.getD 0
section
variable {P : Str → Option Fd} (k : Nat)
def grB2 : Cs := forOf (nthCs g_grove.body 4)
structure R2 (B C D : Int) (low many : Nat) (S0 : Sto) (nv : Option Val) (first : Nat) (names : List Str) (r6 r7 r9 b : Nat) (rows : List Rw) (ds : List Nat) (t : Nat) (env : Env) (S : Sto) : Prop where
  env : ∃ x8 x10 x11 x12 x13 x14, env = [nv, some (.int first), some (.int many), some (.fls (names.map Val.str)), some (.int C), some (.int low), some (.ref r6), some (.ref r7), x8, some (.ref r9), x10, x11, x12, x13, x14]
  le : t ≤ many
  g6 : S[r6]? = some (.lst (rows.map rwv))
  g9 : S[r9]? = some (.lst ((List.range' b (many + 1)).map Val.ref))
  fr : Fr [] S0 S
  hs : gt (many + 1) (hsN rows many (many - t)) ≤ many - t ∧ ∀ j ≤ many, (j < t ∨ j = many) → S[b + j]? = some (.lst ((hsN rows many (many - t) j).map gpr)) ∧ ∀ p ∈ hsN rows many (many - t) j, RQ B D (low - dpt many ds j) p
theorem RQ.rg {B C : Int} {d : Nat} {p : GRow} (h : RQ B C d p) (hd : d ≤ 18) : RG 18 p := ⟨h.nm, h.gs, by have := h.dep; omega⟩
theorem grove_r2 (htd : P "_law_tidy" = some g_tidy) {B C D : Int} {low many : Nat} {S0 : Sto} {nv : Option Val} {first : Nat} {names : List Str} {r6 r7 r9 b : Nat} {rows : List Rw} {ds : List Nat} (hC : 3 ≤ D) (hB : many * D ≤ B) (hl : low ≤ 18) (hm : many ≤ 10000) (hr : RwOk low D rows ds) (hrl : rows.length = many) (h6 : r6 < b) (h9 : b + many < r9) (hb0 : S0.length ≤ b) (i : Nat) (env : Env) (S : Sto) (R : R2 B C D low many S0 nv first names r6 r7 r9 b rows ds (i + 1) env S) :
    ∃ env2 S2, evB (run P (k + 1)) grB2 (env.set 8 (some (.int (i : Int)))) S = .ok .nx env2 S2 ∧ R2 B C D low many S0 nv first names r6 r7 r9 b rows ds i env2 S2 := by
  obtain ⟨x8, x10, x11, x12, x13, x14, rfl⟩ := R.env
  obtain ⟨hg, hh⟩ := R.hs
  generalize hhs : hsN rows many (many - (i + 1)) = hs at hg hh
  have hle := R.le
  have g6 := R.g6
  have g9 := R.g9
  have hi : i < rows.length := by omega
  obtain ⟨⟨h, kd, c⟩, hrow⟩ : ∃ r, rows[i]? = some r := ⟨_, List.getElem?_eq_getElem hi⟩
  obtain ⟨n1, n2, n3, dj, n4, n5, n6⟩ := hr.each i _ hrow
  simp only at n1 n2 n3 n6
  have ixr := list_ix rwv g6 hrow
  obtain ⟨gi, qi⟩ := hh i (by omega) (.inl (by omega))
  have refs : ∀ j, j ≤ many → (List.range' b (many + 1))[j]? = some (b + j) := fun j hj => by
    rw [List.getElem?_range' (by omega)]
    simp
  have ixi := list_ix Val.ref g9 (refs i (by omega))
  have di : dpt many ds i = dj := by
    unfold dpt
    rw [if_neg (by omega), n4]
    rfl
  have hz : grz (hs i) ≤ many - (i + 1) := Nat.le_trans (gt_mem _ hs i (by omega)) hg
  have hln := grz_len (hs i)
  have td := tidy_run (P := P) k htd gi (d := 18) (Nat.le_refl _) (fun p hp => (qi p hp).rg (by omega)) (by omega)
  have gg : GG B (low - dj) (many - (i + 1)) (toG (tdy (hs i))) := gg_of (C := D) (fun p hp => by have := qi p hp; rwa [di] at this) hz (by omega) (by
    have : ((many - (i + 1) : Nat) : Int) * D ≤ many * D := Int.mul_le_mul_of_nonneg_right (by omega) (by omega)
    omega)
  let T : Gro := toG (tdy (hs i))
  -- the holder's place
  obtain ⟨hn, hn1, hn2, hn3, hn4, hn5⟩ : ∃ hn : Nat, hn ≤ many ∧ (hn < i ∨ hn = many) ∧ ixR S (.v (.ref r9)) h = some (.ref (b + hn)) ∧ dpt many ds hn + 1 = dj ∧ hnF many h = hn := by
    rcases n6 with ⟨rfl, e⟩ | ⟨hn, rfl, e1, dh, e2, e3⟩
    · refine ⟨many, Nat.le_refl _, .inr rfl, ?_, by simp [dpt, e], rfl⟩
      rw [ix_ref g9]
      unfold L2.atI L2.ixN
      rw [if_neg (by decide), if_pos (by simp; omega)]
      simp only [List.length_map, List.length_range', Option.bind_some]
      have : ((-1 : Int) + ((many + 1 : Nat) : Int)).toNat = many := by omega
      rw [this]
      simp [refs many (Nat.le_refl _)]
    · refine ⟨hn, by omega, .inl e1, list_ix Val.ref g9 (refs hn (by omega)), ?_, by unfold hnF; rw [if_neg (by omega)]; simp⟩
      unfold dpt
      rw [if_neg (by omega), e2]
      simp [e3]
  clear n6
  obtain ⟨gh, qh⟩ := hh hn hn1 (by omega)
  -- store behind the call
  obtain ⟨S3, ec, c1, c2⟩ := cut_fr T.v S.length (S ++ [.lst ((tdy (hs i)).map gpr)]) rfl (by simp)
  have keep : ∀ {j : Nat} {o : Ob}, S[j]? = some o → S3[j]? = some o := fun {j o} hj => by
    rw [c2 j (got_lt hj), List.getElem?_append_left (got_lt hj)]
    exact hj
  have k6 := keep g6
  have k9 := keep g9
  have kh := keep gh
  have hlh := grz_len (hs hn)
  have hzh : grz (hs hn) ≤ many - (i + 1) := Nat.le_trans (gt_mem _ hs hn (by omega)) hg
  have ap := met_append kh (by simp only [List.length_map]; omega) (.tup [.tup [.str kd, T.v], .int c])
  have ixh : ixR S3 (.v (.ref r9)) h = some (.ref (b + hn)) := by
    rw [ix_ref k9, ← ix_ref g9]
    exact hn3
  let x : GRow := ((kd, T), c)
  let S4 : Sto := S3.set (b + hn) (.lst ((hs hn ++ [x]).map gpr))
  have hS4 : S3.set (b + hn) (.lst ((hs hn).map gpr ++ [.tup [.tup [.str kd, T.v], .int c]])) = S4 := by
    simp [S4, gpr, tv, x, Gro.v]
  rw [hS4] at ap
  have stp : hsN rows many (many - i) = upd' (upd' hs i []) hn (hs hn ++ [x]) := by
    have e : many - i = (many - (i + 1)) + 1 := by omega
    rw [e]
    simp only [hsN, hhs]
    have e2 : many - 1 - (many - (i + 1)) = i := by omega
    rw [e2]
    unfold stpH
    rw [hrow]
    simp only [hn5]
    rfl
  have hb : grB2 = .cons (.asg (.t [(.n 11), (.n 12), (.n 13)]) (.ix (.var 6) (.var 8))) (.cons (.set 14 (.tup (.cons (.var 12) (.cons (.call "_law_tidy" (.cons (.ix (.var 9) (.var 8)) .nil)) .nil)))) (.cons (.ex (.met .append (.ix (.var 9) (.var 11)) (.cons (.tup (.cons (.var 14) (.cons (.var 13) .nil))) .nil))) .nil)) := rfl
  refine ⟨[nv, some (.int first), some (.int many), some (.fls (names.map Val.str)), some (.int C), some (.int low), some (.ref r6), some (.ref r7), some (.int i), some (.ref r9), x10, some (.int h), some (.str kd), some (.int c), some (.tup [.str kd, T.v])], S4, ?_, ⟨⟨_, _, _, _, _, _, rfl⟩, by omega, set_ne k6 (by omega), set_ne k9 (by omega), ?_, ?_⟩⟩
  · rw [hb]
    simp only [List.set_cons_succ, List.set_cons_zero]
    simp [-ix_rf, ixr, rwv, ixi, td, ec, ixh, kh, ap, T]
  · have f1 : Fr [] S0 S3 := ⟨by have := R.fr.le; omega, fun j hj _ => by
      rw [c2 j (by have := R.fr.le; omega), List.getElem?_append_left (by have := R.fr.le; omega), R.fr.eq j hj (by simp)]⟩
    exact (Fr.set S3 (ls := [b + hn]) _ (by simp)).low f1.le (fun j hj => .inr (by simp at hj; omega)) f1
  · rw [stp]
    refine ⟨?_, ?_⟩
    rotate_left
    · intro j hj hlive
      by_cases hjn : j = hn
      · subst hjn
        rw [upd_same]
        refine ⟨set_got kh _, fun p hp => ?_⟩
        rcases List.mem_append.mp hp with hp | hp
        · exact qh p hp
        · simp at hp
          subst hp
          exact ⟨n1, gg.gs, by have q0 : T.dep ≤ low - dj := gg.dep; show T.dep + 1 ≤ _; omega, gg.sm, gg.bnd, gg.td, n2, n3⟩
      · have hji : j ≠ i := by omega
        rw [upd_ne' _ _ hjn, upd_ne' _ _ hji]
        obtain ⟨w1, w2⟩ := hh j hj (by omega)
        exact ⟨set_ne (keep w1) (by omega), w2⟩
    have e0 : upd' hs i [] hn = hs hn := upd_ne' hs _ (by omega)
    have e1 := gt_upd (many + 1) hs i [] (by omega)
    have e2 := gt_upd (many + 1) (upd' hs i []) hn (hs hn ++ [x]) (by omega)
    rw [e0, grz_app] at e2
    have e3 : grz [x] = T.siz + 1 := by simp [grz, x]
    have e4 : T.siz ≤ grz (hs i) := by
      show (toG (tdy (hs i))).siz ≤ _
      rw [siz_toG]
      exact tdy_grz _
    have e5 : grz ([] : List GRow) = 0 := rfl
    omega
/-- the grove that is drawn -/
def groF (ns : List Int) (first many : Nat) (names : List Str) (C : Int) (low : Nat) : Gro := toG (tdy (hsN (rowsF ns first names C low many).1 many many many))
theorem grove_run (hp : P "_law_purse" = some g_purse) (ht : P "_law_take" = some g_take) (htd : P "_law_tidy" = some g_tidy) (hgr : P "_law_grove" = some g_grove) {S : Sto} {ns : List Int} {first many : Nat} {names : List Str} {C : Int} {low : Nat} (hn1 : 1 ≤ names.length) (hn2 : names.length ≤ 8) (hng : ∀ s ∈ names, GS s 20) (hC : 1 ≤ C) (hC' : C ≤ 10 ^ 60) (hl : 1 ≤ low) (hl' : low ≤ 18) (hm : first + many ≤ 10000) :
    GG (many * mxC C) low many (groF ns first many names C low) ∧ ∃ S', run P (k + 2) "_law_grove" [.fls (ns.map Val.int), .int first, .int many, .fls (names.map Val.str), .int C, .int low] S = .ok (.v (groF ns first many names C low).v) S' ∧ Fr [] S S' := by
  let D : Int := mxC C
  let B : Int := many * D
  let r6 := S.length
  let r7 := S.length + 1
  let S1 : Sto := S ++ [.lst []] ++ [.lst []]
  have g6 : S1[r6]? = some (.lst (([] : List Rw).map rwv)) := app_got (got_end S _)
  have g7 : S1[r7]? = some (.lst (([] : List Nat).map dpv)) := by
    have := got_end (S ++ [.lst []]) (.lst [])
    simpa [S1, r7] using this
  have R0 : R1 ns S1 first many names C low r6 r7 0 [some (.fls (ns.map Val.int)), some (.int first), some (.int many), some (.fls (names.map Val.str)), some (.int C), some (.int low), some (.ref r6), some (.ref r7), none, none, none, none, none, none, none] S1 := ⟨⟨_, _, _, _, _, rfl⟩, Fr.refl _ _, g6, g7⟩
  obtain ⟨env1, S2, F1, R1'⟩ := for_rng (evB (run P (k + 1)) grB1) (.n 8) 0 (R1 ns S1 first many names C low r6 r7) many (fun i env S hi R => grove_r1 (P := P) k hp ht hn1 hn2 hng hC hC' hl hm (by omega) i hi env S R) many 0 _ S1 (by omega) R0
  rw [← rng_range'] at F1
  obtain ⟨x8, x10, x11, x12, x13, rfl⟩ := R1'.env
  have hr := rowsF_ok ns first hn1 hng hC hl many
  have hrl := rowsF_len ns first names C low many
  have h6 := R1'.h6
  generalize hst : rowsF ns first names C low many = st at hr hrl h6
  obtain ⟨rows, ds⟩ := st
  simp only at hr hrl h6
  let b := S2.length
  let S3 : Sto := S2 ++ List.replicate (many + 1) (.lst [])
  let r9 := S3.length
  let S4 : Sto := S3 ++ [.lst ((List.range' b (many + 1)).map Val.ref)]
  have l3 : S3.length = b + (many + 1) := by simp [S3, b]
  have l6 := got_lt h6
  have fr2 : Fr [] S S2 := by
    have := R1'.fr
    refine ⟨by have := this.le; simp only [S1, List.length_append] at this; omega, fun j hj _ => ?_⟩
    rw [this.eq j (by simp [S1]; omega) (by simp; omega)]
    simp only [S1]
    rw [List.getElem?_append_left (by simp; omega), List.getElem?_append_left hj]
  have fr4 : Fr [] S S4 := by
    refine ⟨by have := fr2.le; simp [S4, l3]; omega, fun j hj _ => ?_⟩
    have hj2 : j < S2.length := by have := fr2.le; omega
    simp only [S4]
    rw [List.getElem?_append_left (by rw [l3]; omega)]
    simp only [S3]
    rw [List.getElem?_append_left hj2, fr2.eq j hj (by simp)]
  have RR : R2 B C D low many S (some (.fls (ns.map Val.int))) first names r6 r7 r9 b rows ds many [some (.fls (ns.map Val.int)), some (.int first), some (.int many), some (.fls (names.map Val.str)), some (.int C), some (.int low), some (.ref r6), some (.ref r7), x8, some (.ref r9), x10, x11, x12, x13, none] S4 := by
    refine ⟨⟨_, _, _, _, _, _, rfl⟩, Nat.le_refl _, ?_, got_end S3 _, fr4, ?_⟩
    · simp only [S4, S3]
      rw [List.getElem?_append_left (by rw [show (S2 ++ List.replicate (many + 1) (Ob.lst [])).length = b + (many + 1) from l3]; omega), List.getElem?_append_left l6]
      exact h6
    · rw [Nat.sub_self]
      refine ⟨by show gt (many + 1) (fun _ => []) ≤ _; rw [gt_nil]; omega, fun j hj _ => ⟨?_, by simp [hsN]⟩⟩
      simp only [S4, S3]
      rw [List.getElem?_append_left (by rw [show (S2 ++ List.replicate (many + 1) (Ob.lst [])).length = b + (many + 1) from l3]; omega), List.getElem?_append_right (by omega), List.getElem?_replicate, if_pos (by omega)]
      rfl
  obtain ⟨env3, S5, F2, R3⟩ := for_down (evB (run P (k + 1)) grB2) 8 (R2 B C D low many S (some (.fls (ns.map Val.int))) first names r6 r7 r9 b rows ds) (fun i env S' R => grove_r2 (P := P) k htd (mxC_3 C) (Int.le_refl _) hl' (by omega) hr hrl (by omega) (by omega) (by have := fr2.le; omega) i env S' R) many _ S4 RR
  obtain ⟨y8, y10, y11, y12, y13, y14, rfl⟩ := R3.env
  obtain ⟨hg, hh⟩ := R3.hs
  rw [Nat.sub_zero] at hg hh
  have eg : groF ns first many names C low = toG (tdy (hsN rows many many many)) := by unfold groF; rw [hst]
  generalize hsN rows many many = hs at hg hh eg
  obtain ⟨gm, qm⟩ := hh many (Nat.le_refl _) (.inr rfl)
  have dm : dpt many ds many = 0 := by simp [dpt]
  rw [dm, Nat.sub_zero] at qm
  have hz : grz (hs many) ≤ many := Nat.le_trans (gt_mem (many + 1) hs many (Nat.lt_succ_self _)) hg
  have hln := grz_len (hs many)
  have td := tidy_run (P := P) k htd gm (d := 18) (Nat.le_refl _) (fun p hp => (qm p hp).rg (by omega)) (by omega)
  have gg : GG B low many (toG (tdy (hs many))) := gg_of (C := D) qm hz (by have := mxC_3 C; omega) (Int.le_refl _)
  obtain ⟨S6, ec, c1, c2⟩ := cut_fr (toG (tdy (hs many))).v S5.length (S5 ++ [.lst ((tdy (hs many)).map gpr)]) rfl (by simp)
  rw [eg]
  refine ⟨gg, S6, ?_, ?_⟩
  · rw [run_ok hgr _ _ _ rfl]
    have hb : g_grove.body = .cons (.set 6 (.lst .nil)) (.cons (.set 7 (.lst .nil)) (.cons (.for (.n 8) (.rg1 (.var 2)) grB1) (.cons (.set 9 (.comp [8] (.n 8) (.rg1 (.bin .add (.var 2) (.cst (.int 1)))) .none (.lst .nil))) (.cons (.for (.n 8) (.rvr (.var 2)) grB2) (.cons (.ret (.some (.call "_law_tidy" (.cons (.ix (.var 9) (.var 2)) .nil)))) .nil))))) := rfl
    have hst : startE g_grove.n [.fls (ns.map Val.int), .int first, .int many, .fls (names.map Val.str), .int C, .int low] = [some (.fls (ns.map Val.int)), some (.int first), some (.int many), some (.fls (names.map Val.str)), some (.int C), some (.int low), none, none, none, none, none, none, none, none, none] := rfl
    have rg := range_0 many (by omega)
    have rg1 := range_0 (many + 1) (by omega)
    have t1 : evS (run P (k + 1)) (.set 6 (.lst .nil)) [some (.fls (ns.map Val.int)), some (.int first), some (.int many), some (.fls (names.map Val.str)), some (.int C), some (.int low), none, none, none, none, none, none, none, none, none] S = .ok .nx [some (.fls (ns.map Val.int)), some (.int first), some (.int many), some (.fls (names.map Val.str)), some (.int C), some (.int low), some (.ref r6), none, none, none, none, none, none, none, none] (S ++ [.lst []]) := by simp [r6]
    have t2 : evS (run P (k + 1)) (.set 7 (.lst .nil)) [some (.fls (ns.map Val.int)), some (.int first), some (.int many), some (.fls (names.map Val.str)), some (.int C), some (.int low), some (.ref r6), none, none, none, none, none, none, none, none] (S ++ [.lst []]) = .ok .nx [some (.fls (ns.map Val.int)), some (.int first), some (.int many), some (.fls (names.map Val.str)), some (.int C), some (.int low), some (.ref r6), some (.ref r7), none, none, none, none, none, none, none] S1 := by simp [r7, S1]
    have t3 : evS (run P (k + 1)) (.for (.n 8) (.rg1 (.var 2)) grB1) [some (.fls (ns.map Val.int)), some (.int first), some (.int many), some (.fls (names.map Val.str)), some (.int C), some (.int low), some (.ref r6), some (.ref r7), none, none, none, none, none, none, none] S1 = .ok .nx [some (.fls (ns.map Val.int)), some (.int first), some (.int many), some (.fls (names.map Val.str)), some (.int C), some (.int low), some (.ref r6), some (.ref r7), x8, none, x10, x11, x12, x13, none] S2 := by
      rw [evS_for, evI_rg1, evE_var]
      simp only [List.getElem?_cons_succ, List.getElem?_cons_zero, bind_ok, rg, of_some, st_ok]
      exact F1
    have t4 : evS (run P (k + 1)) (.set 9 (.comp [8] (.n 8) (.rg1 (.bin .add (.var 2) (.cst (.int 1)))) .none (.lst .nil))) [some (.fls (ns.map Val.int)), some (.int first), some (.int many), some (.fls (names.map Val.str)), some (.int C), some (.int low), some (.ref r6), some (.ref r7), x8, none, x10, x11, x12, x13, none] S2 = .ok .nx [some (.fls (ns.map Val.int)), some (.int first), some (.int many), some (.fls (names.map Val.str)), some (.int C), some (.int low), some (.ref r6), some (.ref r7), x8, some (.ref r9), x10, x11, x12, x13, none] S4 := by
      have e : evI (run P (k + 1)) (.rg1 (.bin .add (.var 2) (.cst (.int 1)))) [some (.fls (ns.map Val.int)), some (.int first), some (.int many), some (.fls (names.map Val.str)), some (.int C), some (.int low), some (.ref r6), some (.ref r7), x8, none, x10, x11, x12, x13, none] S2 = .ok ⟨rngL 0 (many + 1), []⟩ S2 := by
        have : ((many : Int) + 1) = ((many + 1 : Nat) : Int) := by omega
        simp only [evI_rg1, evE_bin, evE_var, evE_cst, List.getElem?_cons_succ, List.getElem?_cons_zero, bind_ok, bin_add, of_some, this, rg1]
      rw [evS_set, evE_comp, e, bind_ok]
      simp only
      rw [if_pos (le_line (by rw [rng_len]; omega)), evC_none, comp_new _ _ _ _ (fun _ _ => rfl) (fun _ _ => by simp)]
      simp [rng_len, S4, S3, r9, b]
    have t5 : evS (run P (k + 1)) (.for (.n 8) (.rvr (.var 2)) grB2) [some (.fls (ns.map Val.int)), some (.int first), some (.int many), some (.fls (names.map Val.str)), some (.int C), some (.int low), some (.ref r6), some (.ref r7), x8, some (.ref r9), x10, x11, x12, x13, none] S4 = .ok .nx [some (.fls (ns.map Val.int)), some (.int first), some (.int many), some (.fls (names.map Val.str)), some (.int C), some (.int low), some (.ref r6), some (.ref r7), y8, some (.ref r9), y10, y11, y12, y13, y14] S5 := by
      rw [evS_for, evI_rvr, evE_var]
      simp only [List.getElem?_cons_succ, List.getElem?_cons_zero, bind_ok, rg, of_some, st_ok, revRng]
      exact F2
    have ixm := list_ix Val.ref R3.g9 (j := many) (x := b + many) (by rw [List.getElem?_range' (by omega)]; simp)
    rw [hb, hst, evB_cons, t1, sbind_nx, evB_cons, t2, sbind_nx, evB_cons, t3, sbind_nx, evB_cons, t4, sbind_nx, evB_cons, t5, sbind_nx]
    simp [-ix_rf, ixm, td, ec]
  · refine ⟨by have := R3.fr.le; omega, fun j hj _ => ?_⟩
    rw [c2 j (by have := R3.fr.le; omega), List.getElem?_append_left (by have := R3.fr.le; omega), R3.fr.eq j hj (by simp)]
end
end Fe

/-! Gvf: the law's groves as a function that is given -/
namespace Fe
open PySem PySem.W
theorem intsOf_map : ∀ ns : List Int, intsOf (ns.map Val.int) = some ns
  | [] => rfl
  | n :: ns => by simp [intsOf, intsOf_map ns]
theorem intsOf_eq : ∀ {xs : List Val} {ns : List Int}, intsOf xs = some ns → xs = ns.map Val.int
  | [], ns, h => by cases h; rfl
  | x :: xs, ns, h => by
    cases x with
    | int i =>
      simp only [intsOf] at h
      cases q : intsOf xs with
      | none => rw [q] at h; cases h
      | some r => rw [q] at h; cases h; rw [intsOf_eq q]; rfl
    | _ => cases h
theorem strsOf_eq : ∀ {xs : List Val} {ns : List Str}, strsOf xs = some ns → xs = ns.map Val.str
  | [], ns, h => by cases h; rfl
  | x :: xs, ns, h => by
    cases x with
    | str i =>
      simp only [strsOf] at h
      cases q : strsOf xs with
      | none => rw [q] at h; cases h
      | some r => rw [q] at h; cases h; rw [strsOf_eq q]; rfl
    | _ => cases h
structure GrA (first many : Nat) (names : List Str) (C : Int) (low : Nat) : Prop where
  n1 : 1 ≤ names.length
  n2 : names.length ≤ 8
  ng : ∀ s ∈ names, GS s 20
  c1 : 1 ≤ C
  c2 : C ≤ 10 ^ 60
  l1 : 1 ≤ low
  l2 : low ≤ 18
  m : first + many ≤ 10000
open Classical in
noncomputable def groveP (xs : List Val) (S : Sto) : Res Rv := match xs with
  | [.fls a, .int f, .int m, .fls n, .int C, .int l] => match intsOf a, strsOf n with
    | some ns, some names => if 0 ≤ f ∧ 0 ≤ m ∧ 0 ≤ l ∧ GrA f.toNat m.toNat names C l.toNat then .ok (.v (groF ns f.toNat m.toNat names C l.toNat).v) S else .bad
    | _, _ => .bad
  | _ => .bad
theorem groveP_ok {ns : List Int} {first many : Nat} {names : List Str} {C : Int} {low : Nat} (h : GrA first many names C low) (S : Sto) : groveP [.fls (ns.map Val.int), .int first, .int many, .fls (names.map Val.str), .int C, .int low] S = .ok (.v (groF ns first many names C low).v) S := by
  simp only [groveP, intsOf_map, strsOf_map', Int.toNat_natCast]
  rw [if_pos ⟨by omega, by omega, by omega, h⟩]
theorem groveP_inv {xs : List Val} {S S' : Sto} {r : Rv} (h : groveP xs S = .ok r S') : ∃ (ns : List Int) (first many : Nat) (names : List Str) (C : Int) (low : Nat), GrA first many names C low ∧ xs = [.fls (ns.map Val.int), .int first, .int many, .fls (names.map Val.str), .int C, .int low] ∧ r = .v (groF ns first many names C low).v ∧ S' = S := by
  unfold groveP at h
  split at h
  · rename_i a f m n C l
    split at h
    · rename_i ns names e1 e2
      split at h
      · rename_i hc
        cases h
        refine ⟨ns, f.toNat, m.toNat, names, C, l.toNat, hc.2.2.2, ?_, rfl, rfl⟩
        rw [intsOf_eq e1, strsOf_eq e2]
        have h1 : ((f.toNat : Nat) : Int) = f := by omega
        have h2 : ((m.toNat : Nat) : Int) = m := by omega
        have h3 : ((l.toNat : Nat) : Int) = l := by omega
        rw [h1, h2, h3]
      · cases h
    · cases h
  · cases h
theorem groveP_exc {xs : List Val} {S S' : Sto} {x : Exn} (h : groveP xs S = .exc x S') : False := by
  unfold groveP at h
  split at h
  · split at h
    · split at h <;> cases h
    · cases h
  · cases h
theorem bel_enc : ∀ g : Gro, Val.belL 0 g.enc = true
  | .nil => rfl
  | .cons k s n r => by
    simp only [Gro.enc, Val.belL, Bool.and_eq_true, bel_tup, bel_int, bel_str, bel_enc s, bel_enc r, and_self]
@[simp] theorem Gro.v_bel (g : Gro) : g.v.bel 0 = true := by
  show (Val.tup g.enc).bel 0 = true
  rw [bel_tup]
  exact bel_enc g
@[simp] theorem Gro.v_loc (g : Gro) : g.v.loc = none := id rfl
@[simp] theorem Gro.v_frz (g : Gro) : frzR (.v g.v) = some g.v := id rfl
noncomputable def prG : Prims := fun k f => if f = "_law_grove" then some (match k with
  | 0 => fun _ _ => .bad
  | _ + 1 => groveP) else none
theorem VRels.flat {θ : Th} {ys xs : List Val} (h : VRels θ ys xs) (hx : ∀ x ∈ xs, x.bel 0 = true) : ys = xs := by
  induction h with
  | nil => rfl
  | cons h _ ih =>
    have h1 := hx _ (List.mem_cons_self ..)
    rw [ih fun x hx' => hx x (List.mem_cons_of_mem _ hx')]
    cases h with
    | ref h => rw [bel_ref0] at h1; cases h1
    | flat h => rfl
theorem tab_in : ∀ {es : List Ent} {f : Str} {d : Fd}, tab es f = some d → ∃ e ∈ es, e.f = f ∧ e.d = d
  | [], f, d, h => by cases h
  | e :: es, f, d, h => by
    unfold tab at h
    split at h
    · rename_i q
      cases h
      exact ⟨e, List.mem_cons_self .., by simpa using q, rfl⟩
    · obtain ⟨e', h1, h2⟩ := tab_in h
      exact ⟨e', List.mem_cons_of_mem _ h1, h2⟩
theorem simT_pure {P : Str → Option Fd} {k : Nat} {f : Str} {F : List Val → Sto → Res Rv} (h : ∀ (xs : List Val) (S S1 S' : Sto) (r : Rv), F xs S = .ok r S' → ∃ x S1', (∀ y ∈ xs, y.bel 0 = true) ∧ S' = S ∧ r = .v x ∧ x.bel 0 = true ∧ run P (k + 1) f xs S1 = .ok (.v x) S1' ∧ S1.length ≤ S1'.length ∧ ∀ q, q < S1.length → S1'[q]? = S1[q]?) (he : ∀ xs S x S', F xs S = .exc x S' → False)
    (xs1 xs2 : List Val) (S1 S2 : Sto) (θ : Th) (R : Rel θ S1 S2) (V : VRels θ xs1 xs2) : SimT θ S1 S2 (run P (k + 1) f xs1 S1) (F xs2 S2) := by
  cases q : F xs2 S2 with
  | bad => trivial
  | exc x S => exact (he _ _ _ _ q).elim
  | ok r S' =>
    obtain ⟨x, S1', h1, rfl, rfl, h2, h3, h4, h5⟩ := h xs2 S2 S1 S' r q
    rw [V.flat h1, h3]
    have tk : S1'.take S1.length = S1 := by
      apply List.ext_getElem?
      intro i
      rw [List.getElem?_take]
      split
      · exact h5 i (by assumption)
      · rw [List.getElem?_eq_none (by omega)]
    refine ⟨.v x, S1', rfl, ⟨h2, rfl⟩, ⟨R.inj, fun l q hl => ?_, by rw [tk]; exact R.f1, R.f2⟩, h4, rfl, fun q hq _ => h5 q hq⟩
    obtain ⟨o, g1, g2⟩ := R.get l q hl
    exact ⟨o, g1, by rw [h5 q (R.dom hl).2]; exact g2⟩
theorem okG {ents : List Ent} (h : ents.all (fun e => e.f == "_law_grove" || (okB e.d.np e.d.n e.d.body && decide (e.d.np ≤ e.d.n))) = true) (hp : tab ents "_law_purse" = some g_purse) (ht : tab ents "_law_take" = some g_take) (htd : tab ents "_law_tidy" = some g_tidy) (hgr : tab ents "_law_grove" = some g_grove) : Ok2 (tab ents) prG := by
  refine ⟨fun k f d h1 h2 => ?_, fun k f F h1 => ?_⟩
  · obtain ⟨e, he, rfl, rfl⟩ := tab_in h2
    have := List.all_eq_true.mp h e he
    simp only [Bool.or_eq_true, Bool.and_eq_true, decide_eq_true_eq] at this
    rcases this with z | z
    · rw [eq_of_beq z] at h1
      simp [prG] at h1
    · exact z
  · unfold prG at h1
    split at h1
    · rename_i e
      subst e
      cases k with
      | zero =>
        cases h1
        intro xs1 xs2 S1 S2 θ R V
        trivial
      | succ k =>
        cases h1
        refine simT_pure (fun xs S S1 S' r q => ?_) (fun xs S x S' q => groveP_exc q)
        obtain ⟨ns, first, many, names, C, low, a, rfl, rfl, rfl⟩ := groveP_inv q
        obtain ⟨_, S1', e1, fr⟩ := grove_run (P := tab ents) k hp ht htd hgr (S := S1) (ns := ns) (first := first) (many := many) (names := names) (C := C) (low := low) a.n1 a.n2 a.ng a.c1 a.c2 a.l1 a.l2 a.m
        refine ⟨(groF ns first many names C low).v, S1', ?_, rfl, rfl, Gro.v_bel _, e1, fr.le, fun q hq => fr.eq q hq (by simp)⟩
        intro y hy
        simp at hy
        rcases hy with rfl | rfl | rfl | rfl | rfl | rfl
        · rw [bel_fls]; exact belL_of fun x hx => by obtain ⟨i, _, rfl⟩ := List.mem_map.mp hx; exact bel_int 0 i
        · exact bel_int 0 _
        · exact bel_int 0 _
        · rw [bel_fls]; exact belL_of fun x hx => by obtain ⟨i, _, rfl⟩ := List.mem_map.mp hx; exact bel_str 0 i
        · exact bel_int 0 _
        · exact bel_int 0 _
    · cases h1
theorem grove2 {P : Str → Option Fd} (k : Nat) {ns : List Int} {first many : Nat} {names : List Str} {C : Int} {low : Nat} (h : GrA first many names C low) (S : Sto) : run2 P prG (k + 2) "_law_grove" [.fls (ns.map Val.int), .int first, .int many, .fls (names.map Val.str), .int C, .int low] S = .ok (.v (groF ns first many names C low).v) S := by
  rw [run2_pr (F := groveP) (k + 1) rfl]
  exact groveP_ok h S
theorem prG_no (k : Nat) (f : Str) (h : (f == ("_law_grove" : Str)) = false) : prG k f = none := by
  unfold prG
  rw [if_neg (by simpa using h)]
def gP : Str → Option Fd := fun f => if f = "_law_purse" then some g_purse else if f = "_law_take" then some g_take else if f = "_law_tidy" then some g_tidy else some g_grove
theorem groF_ok {ns : List Int} {first many : Nat} {names : List Str} {C : Int} {low : Nat} (h : GrA first many names C low) : GG (many * mxC C) low many (groF ns first many names C low) := by
  exact (grove_run (P := gP) 0 rfl rfl rfl rfl (S := []) h.n1 h.n2 h.ng h.c1 h.c2 h.l1 h.l2 h.m).1
end Fe

/-! Gvg: loops by an invariant; rows of groves; places -/
namespace Fe
open PySem PySem.W PySem.SeqAt PyProof.Rows
theorem whL_inv {σ : Type} (cond : Env → Sto → Res Bool) (body : Env → Sto → SR) (mk : σ → Env × Sto) (m : σ → Nat) (I Q : σ → Prop)
    (hc : ∀ s, I s → (cond (mk s).1 (mk s).2 = .ok false (mk s).2 ∧ Q s) ∨ (cond (mk s).1 (mk s).2 = .ok true (mk s).2 ∧ ∃ s', body (mk s).1 (mk s).2 = .ok .nx (mk s').1 (mk s').2 ∧ I s' ∧ m s' < m s)) :
    ∀ (k : Nat) (s : σ), I s → m s < k → ∃ s', whL cond body k (mk s).1 (mk s).2 = .ok .nx (mk s').1 (mk s').2 ∧ I s' ∧ Q s'
  | 0, s, _, h => by omega
  | k + 1, s, hI, h => by
    rcases hc s hI with ⟨h1, h2⟩ | ⟨h1, s', h2, h3, h4⟩
    · exact ⟨s, by simp [whL, h1], hI, h2⟩
    · obtain ⟨s2, q1, q2⟩ := whL_inv cond body mk m I Q hc k s' h3 (by omega)
      exact ⟨s2, by simp only [whL, h1, st_ok, if_true, h2]; exact q1, q2⟩
/-- a loop over rows with an invariant -/
theorem forL_inv {σ α : Type} (body : Env → Sto → SR) (tg : Tg) (enc : α → Val) (mk : σ → Env × Sto) (I : σ → List α → Prop)
    (hb : ∀ s x r, I s (x :: r) → ∃ env1 s', asgT tg (enc x) (mk s).1 = some env1 ∧ body env1 (mk s).2 = .ok .nx (mk s').1 (mk s').2 ∧ I s' r) :
    ∀ (xs : List α) (s : σ), I s xs → ∃ s', forL body tg [] (xs.map enc) (mk s).1 (mk s).2 = .ok .nx (mk s').1 (mk s').2 ∧ I s' []
  | [], s, h => ⟨s, by simp [forL], h⟩
  | x :: xs, s, h => by
    obtain ⟨env1, s1, h1, h2, h3⟩ := hb s x xs h
    obtain ⟨s2, q1, q2⟩ := forL_inv body tg enc mk I hb xs s1 h3
    exact ⟨s2, by simp only [List.map_cons, forL, guardS_nil', h1, h2]; exact q1, q2⟩
/-- the items of enumerate -/
def enr {α : Type} : Nat → List α → List (Nat × α)
  | _, [] => []
  | i, x :: r => (i, x) :: enr (i + 1) r
def env2 {α : Type} (f : α → Val) (p : Nat × α) : Val := .tup [.int (p.1 : Int), f p.2]
theorem enum_enr {α : Type} (f : α → Val) : ∀ (i : Nat) (xs : List α), enumFrom i (xs.map f) = (enr i xs).map (env2 f)
  | _, [] => rfl
  | i, x :: r => by
    simp only [List.map_cons, enumFrom, enr, enum_enr f (i + 1) r]
    rfl
/-- a comprehension over rows, with a test -/
theorem comp_rs (T : Fns) (own : List Nat) (tg : Tg) (it : It) (cd : Eo) (a : E) (env : Env) (S : Sto) {α : Type} (f g : α → Val) (p : α → Bool) {rs : List α} {live : List (Nat × List Val)} (hv : liveOk S live) (hi : evI T it env S = .ok ⟨rs.map f, live⟩ S) (hl : rs.length ≤ 16000000)
    (h : ∀ r ∈ rs, ∃ e1, asgT tg (f r) (wipeE env own) = some e1 ∧ evC T cd e1 S = .ok (p r) S ∧ (p r = true → evE T a e1 S = .ok (.v (g r)) S)) : evE T (.comp own tg it cd a) env S = .ok (.t (.lst ((rs.filter p).map g))) S := by
  have key : ∀ (rs : List α) (acc : List Val), (∀ r ∈ rs, ∃ e1, asgT tg (f r) (wipeE env own) = some e1 ∧ evC T cd e1 S = .ok (p r) S ∧ (p r = true → evE T a e1 S = .ok (.v (g r)) S)) → compL (evC T cd) (evE T a) tg (wipeE env own) live (rs.map f) acc S = .ok (.t (.lst (acc ++ (rs.filter p).map g))) S := by
    intro rs
    induction rs with
    | nil => intro acc _; simp [compL, guardL_pos _ hv]
    | cons x xs ih =>
      intro acc h
      obtain ⟨e1, h1, h2, h3⟩ := h x (List.mem_cons_self ..)
      have h' := fun y hy => h y (List.mem_cons_of_mem x hy)
      rw [List.map_cons, compL, guardL_pos _ hv]
      cases hp : p x
      · rw [hp] at h2
        simp only [h1, h2, bind_ok]
        rw [if_neg (by simp), ih _ h']
        simp [List.filter, hp]
      · rw [hp] at h2
        simp only [h1, h2, h3 hp, bind_ok, lay_v]
        rw [if_pos trivial, ih _ h']
        simp [List.filter, hp]
  rw [evE_comp, hi, bind_ok]
  simp only
  rw [if_pos (le_line (by simpa using hl)), key rs [] h]
  rfl
theorem comp_m (T : Fns) (own : List Nat) (tg : Tg) (it : It) (a : E) (env : Env) (S : Sto) {α : Type} (f g : α → Val) {rs : List α} {live : List (Nat × List Val)} (hv : liveOk S live) (hi : evI T it env S = .ok ⟨rs.map f, live⟩ S) (hl : rs.length ≤ 16000000)
    (h : ∀ r ∈ rs, ∃ e1, asgT tg (f r) (wipeE env own) = some e1 ∧ evE T a e1 S = .ok (.v (g r)) S) : evE T (.comp own tg it .none a) env S = .ok (.t (.lst (rs.map g))) S := by
  have := comp_rs T own tg it .none a env S f g (fun _ => true) hv hi hl fun r hr => by
    obtain ⟨e1, h1, h2⟩ := h r hr
    exact ⟨e1, h1, by rw [evC_none], fun _ => h2⟩
  rw [this, List.filter_eq_self.mpr fun _ _ => rfl]
theorem ext_t {S : Sto} {l : Nat} {xs : List Val} (h : S[l]? = some (.lst xs)) (zs : List Val) (hl : xs.length + zs.length ≤ 16000000) : extR l (.t (.lst zs)) S = some (.v .non, S.set l (.lst (xs ++ zs))) := by
  simp only [extR, h, lstW, if_pos (le_line hl)]
theorem rows_len : ∀ g : Gro, (rowsG g).length = g.len
  | .nil => rfl
  | .cons k s n r => by simp [rowsG, Gro.len, rows_len r]
theorem rows_siz : ∀ (g : Gro) (p : GRow), p ∈ rowsG g → p.1.2.siz + 1 ≤ g.siz
  | .nil, p, h => by simp [rowsG] at h
  | .cons k s n r, p, h => by
    rcases List.mem_cons.mp h with rfl | h
    · simp only [Gro.siz]; omega
    · have := rows_siz r p h; simp only [Gro.siz]; omega
theorem rows_dep : ∀ (g : Gro) (p : GRow), p ∈ rowsG g → p.1.2.dep + 1 ≤ g.dep
  | .nil, p, h => by simp [rowsG] at h
  | .cons k s n r, p, h => by
    rcases List.mem_cons.mp h with rfl | h
    · simp only [Gro.dep]; omega
    · have := rows_dep r p h; simp only [Gro.dep]; omega
/-! ### places -/
abbrev Pth := List Nat
def pav (p : Pth) : Val := .tup (p.map fun n : Nat => Val.int (n : Int))
@[simp] theorem pv_frz (p : Pth) : frzR (.v (pav p)) = some (pav p) := id rfl
@[simp] theorem pv_loc (p : Pth) : (pav p).loc = none := id rfl
def plex : Pth → Pth → Bool
  | [], [] => false
  | [], _ :: _ => true
  | _ :: _, [] => false
  | a :: p, b :: q => if a = b then plex p q else decide (a < b)
theorem toks_pv : ∀ p q : Pth, PyProof.Rows.lexLt itemOrd (keyToksAll (Val.pdL (p.map fun n : Nat => Val.int (n : Int)))) (keyToksAll (Val.pdL (q.map fun n : Nat => Val.int (n : Int)))) = plex p q
  | [], [] => by
    simp only [List.map_nil, Val.pdL, keyToksAll, plex]
    have := dataLt_int 0 0
    simpa [dataLt, keyToks] using this
  | [], b :: q => by
    simp only [List.map_nil, List.map_cons, Val.pdL, keyToksAll, plex]
    rw [lex_len _ _ _ _ (by decide)]
    rfl
  | a :: p, [] => by
    simp only [List.map_nil, List.map_cons, Val.pdL, keyToksAll, plex]
    rw [lex_len _ _ _ _ (by decide)]
    rfl
  | a :: p, b :: q => by
    simp only [List.map_cons, Val.pdL, Val.pd]
    have hai : alike (.int (a : Int)) (.int (b : Int)) = true := by simp [alike]
    by_cases h : a = b
    · rw [dataLt_all_yes hai (by simp [PyData.eqv, h]), toks_pv p q]
      simp [plex, h]
    · have hn : ((a : Nat) : Int) ≠ b := by omega
      rw [dataLt_all_no hai (by simp [PyData.eqv, hn]), dataLt_int]
      simp [plex, h]
theorem lt_pv (p q : Pth) : dataLt (pav p).pd (pav q).pd = plex p q := by
  simp only [pav, Val.pd]
  rw [dataLt_tuple, toks_pv]
theorem plex_tri : ∀ p q : Pth, plex p q = true ∨ p = q ∨ plex q p = true
  | [], [] => by simp
  | [], _ :: _ => by simp [plex]
  | _ :: _, [] => by simp [plex]
  | a :: p, b :: q => by
    by_cases h : a = b
    · subst h
      rcases plex_tri p q with h | h | h <;> simp [plex, h]
    · have : a < b ∨ b < a := by omega
      rcases this with g | g
      · simp [plex, h, g]
      · have h' : ¬ b = a := fun e => h e.symm
        simp [plex, h', g]
theorem plex_asym : ∀ p q : Pth, plex p q = true → plex q p = false
  | [], [] => by simp [plex]
  | [], _ :: _ => by simp [plex]
  | _ :: _, [] => by simp [plex]
  | a :: p, b :: q => by
    by_cases h : a = b
    · subst h
      simpa [plex] using plex_asym p q
    · have h' : ¬ b = a := fun e => h e.symm
      simp only [plex, if_neg h, if_neg h', decide_eq_true_eq, decide_eq_false_iff_not]
      omega
theorem plex_trans : ∀ p q r : Pth, plex p q = true → plex q r = true → plex p r = true
  | [], q, [], h1, h2 => by cases q <;> simp [plex] at h1 h2
  | [], q, _ :: _, h1, h2 => by simp [plex]
  | a :: p, [], r, h1, h2 => by simp [plex] at h1
  | a :: p, b :: q, [], h1, h2 => by simp [plex] at h2
  | a :: p, b :: q, c :: r, h1, h2 => by
    simp only [plex] at h1 h2 ⊢
    by_cases e1 : a = b
    · subst e1
      rw [if_pos rfl] at h1
      by_cases e2 : a = c
      · subst e2
        rw [if_pos rfl] at h2 ⊢
        exact plex_trans p q r h1 h2
      · rw [if_neg e2] at h2 ⊢
        exact h2
    · rw [if_neg e1] at h1
      have g1 : a < b := by simpa using h1
      by_cases e2 : b = c
      · subst e2
        rw [if_neg e1]
        exact h1
      · rw [if_neg e2] at h2
        have g2 : b < c := by simpa using h2
        rw [if_neg (by omega)]
        simp
        omega
/-- sorting places -/
theorem sort_pav {ps qs : List Pth} (h : ps.Perm qs) (hs : qs.Pairwise fun a b => plex a b = true) : sortV (ps.map pav) = qs.map pav := by
  have e : sortV (ps.map pav) = (ps.mergeSort fun a b => !plex b a).map pav := by
    unfold sortV
    rw [← List.map_mergeSort]
    intro a _ b _
    rw [lt_pv]
  rw [e]
  congr 1
  have tr : ∀ a b c : Pth, (!plex b a) = true → (!plex c b) = true → (!plex c a) = true := by
    intro a b c h1 h2
    rcases plex_tri a b with g | g | g
    · rcases plex_tri b c with q | q | q
      · simp [plex_asym _ _ (plex_trans _ _ _ g q)]
      · subst q
        simpa using h1
      · simp [q] at h2
    · subst g
      exact h2
    · simp [g] at h1
  have to : ∀ a b : Pth, ((!plex b a) || (!plex a b)) = true := by
    intro a b
    cases hh : plex b a with
    | false => rfl
    | true => simp [plex_asym _ _ hh]
  refine List.Perm.eq_of_pairwise (le := fun a b => (!plex b a) = true) ?_ (List.pairwise_mergeSort tr to ps) (hs.imp fun {a b} h => by simp [plex_asym _ _ h]) ((List.mergeSort_perm ps _).trans h)
  intro a b _ _ h1 h2
  rcases plex_tri a b with g | g | g
  · simp [g] at h2
  · exact g
  · simp [g] at h1
theorem pav_ok (p : Pth) : dOk 1 (pav p) := dOk_tup fun x hx => by
  obtain ⟨i, _, rfl⟩ := List.mem_map.mp hx
  exact dOk_int _
theorem pav_shl (ps : List Pth) : SeqAt.shaped (.list (Val.pdL (ps.map pav))) = true := dOk_shl (d := 1) (fun x hx => by
  obtain ⟨p, _, rfl⟩ := List.mem_map.mp hx
  exact pav_ok p) (by omega)
theorem pav_bel (ps : List Pth) : Val.belL 0 (ps.map pav) = true := (dOk_list (d := 1) fun x hx => by
  obtain ⟨p, _, rfl⟩ := List.mem_map.mp hx
  exact pav_ok p).1
theorem alike_pth : ∀ p q : Pth, alikeAll (Val.pdL (p.map fun n : Nat => Val.int (n : Int))) (Val.pdL (q.map fun n : Nat => Val.int (n : Int))) = true
  | [], _ => by simp [Val.pdL, alikeAll]
  | _ :: _, [] => by simp [Val.pdL, alikeAll]
  | a :: p, b :: q => by simp [Val.pdL, Val.pd, alikeAll, alike, alike_pth p q]
theorem sortOk_pav {ps : List Pth} (h : ∀ p ∈ ps, p ≠ []) (hl : ps.length ≤ 16000000) : sortOk (ps.map pav) = true := by
  have h4 : (ps.map pav).length ≤ sizeLine := le_line (by rw [List.length_map]; omega)
  simp only [sortOk, pav_bel, decide_eq_true h4, Bool.true_and, Bool.and_eq_true, Bool.and_true]
  refine ⟨⟨?_, ?_⟩, ?_⟩
  · simp only [List.all_eq_true]
    intro x hx y hy
    obtain ⟨p, _, rfl⟩ := List.mem_map.mp hx
    obtain ⟨q, _, rfl⟩ := List.mem_map.mp hy
    simp [pav, Val.pd, alike, alike_pth]
  · simp only [Bool.or_eq_true, List.all_eq_true]
    left
    intro x hx
    obtain ⟨p, hp, rfl⟩ := List.mem_map.mp hx
    cases p with
    | nil => exact (h _ hp rfl).elim
    | cons a p => rfl
  · simp only [List.all_eq_true]
    intro x hx
    obtain ⟨p, hp, rfl⟩ := List.mem_map.mp hx
    have := (pav_ok p).2.2
    simp only [decide_eq_true_eq]
    omega
theorem eqv_pth : ∀ p q : Pth, PyData.eqvAll (Val.pdL (p.map fun n : Nat => Val.int (n : Int))) (Val.pdL (q.map fun n : Nat => Val.int (n : Int))) = decide (p = q)
  | [], [] => by simp [Val.pdL, PyData.eqvAll]
  | [], _ :: _ => by simp [Val.pdL, PyData.eqvAll]
  | _ :: _, [] => by simp [Val.pdL, PyData.eqvAll]
  | a :: p, b :: q => by
    simp only [List.map_cons, Val.pdL, Val.pd, PyData.eqvAll, PyData.eqv, eqv_pth p q, List.cons.injEq]
    by_cases h1 : a = b <;> by_cases h2 : p = q <;> simp [h1, h2] <;> omega
theorem eqv_pavs : ∀ ps qs : List Pth, PyData.eqvAll (Val.pdL (ps.map pav)) (Val.pdL (qs.map pav)) = decide (ps = qs)
  | [], [] => by simp [Val.pdL, PyData.eqvAll]
  | [], _ :: _ => by simp [Val.pdL, PyData.eqvAll]
  | _ :: _, [] => by simp [Val.pdL, PyData.eqvAll]
  | a :: p, b :: q => by
    have e : PyData.eqv (pav a).pd (pav b).pd = decide (a = b) := by simp [pav, Val.pd, PyData.eqv, eqv_pth]
    simp only [List.map_cons, Val.pdL, PyData.eqvAll, eqv_pavs p q, e, List.cons.injEq]
    by_cases h1 : a = b <;> by_cases h2 : p = q <;> simp [h1, h2]
end Fe

/-! Gvh: plain data -/
namespace Fe
open PySem PySem.W PySem.SeqAt PyProof.Rows
def d__law_plain_l1 : Cs := (.cons (.set 2 (.met .pop (.var 1) .nil)) (.cons (.ite (.isi (.var 2) .tup) (.cons (.ex (.ext (.var 1) (.blt .list (.cons (.var 2) .nil)))) .nil) (.cons (.ite (.or (.isi (.var 2) .bl) (.not (.isiT (.var 2) [.int, .str]))) (.cons (.ret (.some (.cst (.bl false)))) .nil) .nil) .nil)) (.kill [2] .nil)))
def d__law_plain : Fd := ⟨1, 3, (.cons (.set 1 (.lst (.cons (.fz (.var 0)) .nil))) (.cons (.wh (.cmp .ne (.var 1) (.lst .nil)) d__law_plain_l1) (.kill [1] (.cons (.ret (.some (.isi (.var 0) .tup))) .nil))))⟩
mutual
/-- tuples, whole numbers and texts alone -/
def plV : Val → Bool
  | .int _ => true
  | .str _ => true
  | .tup xs => plL xs
  | _ => false
def plL : List Val → Bool
  | [] => true
  | x :: r => plV x && plL r
end
mutual
def szV : Val → Nat
  | .tup xs => szL xs + 1
  | _ => 1
def szL : List Val → Nat
  | [] => 0
  | x :: r => szV x + szL r
end
theorem plL_app : ∀ a b : List Val, plL (a ++ b) = (plL a && plL b)
  | [], b => by simp [plL]
  | x :: a, b => by simp [plL, plL_app a b, Bool.and_assoc]
theorem szL_app : ∀ a b : List Val, szL (a ++ b) = szL a + szL b
  | [], b => by simp [szL]
  | x :: a, b => by simp only [List.cons_append, szL, szL_app a b]; omega
theorem szV_pos : ∀ x : Val, 1 ≤ szV x := by intro x; cases x <;> simp [szV]
theorem szL_len : ∀ a : List Val, a.length ≤ szL a
  | [] => by simp [szL]
  | x :: a => by have := szV_pos x; have := szL_len a; simp only [List.length_cons, szL]; omega
theorem dOk_inv {d : Nat} {xs : List Val} (h : dOk d (.tup xs)) : ∀ x ∈ xs, dOk d x := by
  obtain ⟨h1, h2, h3⟩ := h
  simp only [Val.bel, Val.pd, PyData.canLay0, PyData.depth] at h1 h2 h3
  have key : ∀ (xs : List Val), Val.belL 0 xs = true → PyData.canLayAll0 (Val.pdL xs) = true → PyData.depthAll (Val.pdL xs) ≤ d → ∀ x ∈ xs, dOk d x := by
    intro xs
    induction xs with
    | nil => intro _ _ _ x hx; simp at hx
    | cons y ys ih =>
      intro a b c x hx
      simp only [Val.belL, Val.pdL, PyData.canLayAll0, PyData.depthAll, Bool.and_eq_true] at a b c
      rcases List.mem_cons.mp hx with rfl | hx
      · exact ⟨a.1, b.1, by omega⟩
      · exact ih a.2 b.2 (by omega) x hx
  exact key xs h1 h2 (by omega)
section
variable {P : Str → Option Fd} {pr : Prims} (k : Nat) (S : Sto)
theorem plain2 (hp : pr k "_law_plain" = none) (h : P "_law_plain" = some d__law_plain) (xs : List Val) (hpl : plL xs = true) (hd : dOk 59 (.tup xs)) (hz : szL xs ≤ 1000000) : run2 P pr (k + 1) "_law_plain" [.tup xs] S = .ok (.v (.bl true)) S := by
  let T := run2 P pr k
  let x0 : Val := .tup xs
  let mk : List Val → Env × Sto := fun st => ([some x0, some (.ref 1), none], [dmy, .lst st, dmy])
  have dl : ∀ {zs : List Val}, (∀ z ∈ zs, dOk 59 z) → ∀ S : Sto, S[1]? = some (.lst zs) → eqR S (.v (.ref 1)) (.t (.lst [])) = some zs.isEmpty := fun hz S hS => ref_nil hS hz (by omega)
  obtain ⟨s', w1, -, w3⟩ := whL_inv (evT T (.cmp .ne (.var 1) (.lst .nil))) (evB2 1 T d__law_plain_l1) mk szL (fun st => plL st = true ∧ (∀ z ∈ st, dOk 59 z) ∧ szL st ≤ 1000001) (fun st => st = []) (by
    rintro st ⟨i1, i2, i3⟩
    rcases List.eq_nil_or_concat st with rfl | ⟨st, x, rfl⟩
    · left
      have := dl i2 (mk []).2 rfl
      exact ⟨by simp [mk, this], rfl⟩
    · right
      rw [List.concat_eq_append] at i1 i2 i3 ⊢
      have c1 := dl i2 (mk (st ++ [x])).2 rfl
      rw [plL_app, Bool.and_eq_true] at i1
      rw [szL_app] at i3
      have ln := szL_len st
      have mp := met_pop (S := (mk (st ++ [x])).2) (l := 1) (xs := st) (x := x) rfl
      refine ⟨by simp [mk, c1], ?_⟩
      obtain ⟨p1, p2⟩ := i1
      simp only [plL, Bool.and_true] at p2
      cases x with
      | tup ys =>
        simp only [szL, szV] at i3
        have lny := szL_len ys
        have ex := ext_t (S := [dmy, .lst st, dmy]) (l := 1) (xs := st) rfl ys (by omega)
        refine ⟨st ++ ys, ?_, ⟨?_, ?_, ?_⟩, ?_⟩
        · simp [mk, d__law_plain_l1, T, metL] at mp ⊢
          simp [mp, ex, isiR, clsOf, isiB, blt1, dicW]
        · simp only [plV] at p2
          simp [plL_app, p1, p2]
        · intro z hz
          rcases List.mem_append.mp hz with hz | hz
          · exact i2 z (by simp [hz])
          · exact dOk_inv (i2 (.tup ys) (by simp)) z hz
        · rw [szL_app]; omega
        · rw [szL_app, szL_app]
          simp only [szL, szV]
          omega
      | int i =>
        refine ⟨st, ?_, ⟨p1, fun z hz => i2 z (by simp [hz]), by omega⟩, by rw [szL_app]; simp [szL, szV]⟩
        simp [mk, d__law_plain_l1, T] at mp ⊢
        simp [mp, isiR, clsOf, isiB, isiTR]
      | str i =>
        refine ⟨st, ?_, ⟨p1, fun z hz => i2 z (by simp [hz]), by omega⟩, by rw [szL_app]; simp [szL, szV]⟩
        simp [mk, d__law_plain_l1, T] at mp ⊢
        simp [mp, isiR, clsOf, isiB, isiTR]
      | _ => simp [plV] at p2) whFuel [x0] ⟨by simpa [plL, plV, x0] using hpl, by simpa [x0] using hd, by simp [szL, szV, x0]; omega⟩ (by simp [szL, szV, x0, whFuel]; omega)
  subst w3
  rw [run2_ok k hp h _ _ rfl (by simp)]
  simp [d__law_plain, List.replicate, mk, x0, T] at w1 ⊢
  simp [w1, isiR, clsOf, isiB]
theorem strs_bel : ∀ nms : List Str, Val.belL 0 (nms.map Val.str) = true := fun nms => belL_of fun x hx => by
  obtain ⟨s, _, rfl⟩ := List.mem_map.mp hx
  exact bel_str 0 s
/-- names from a purse that is new -/
theorem names_t (hp : pr k "_law_take" = none) (hp2 : pr (k + 1) "_law_names" = none) (h : P "_law_take" = some g_take) (h2 : P "_law_names" = some g_names) (hb : belS 0 S = true) (p : Pu) :
    ∃ (nms : List Str), 1 ≤ nms.length ∧ nms.length ≤ 8 ∧ (∀ s ∈ nms, nmS s) ∧ ((run2 P pr (k + 2) "_law_names" [.ref S.length] (S ++ [p.ob])).bind fun r S2 => cut S.length r S2) = .ok (.t (.lst (nms.map Val.str))) S := by
  obtain ⟨nms, p', h1, h3, h4, h5⟩ := names2 k hp hp2 h h2 (l := S.length) (S := S ++ [p.ob]) (p := p) (by simp)
  refine ⟨nms, h1, h3, h4, ?_⟩
  rw [h5, bind_ok]
  have e : (S ++ [p.ob]).set S.length p'.ob = S ++ [p'.ob] := by simp
  have tk : (S ++ [p'.ob]).take S.length = S := by simp
  rw [e, cut_o (by rw [tk]; exact hb) (by simpa [Ob.bel] using strs_bel nms), tk]
@[simp] theorem Pu.ob_bel (p : Pu) : p.ob.bel 0 = true := id rfl
@[simp] theorem belS_nil : belS 0 [] = true := id rfl
@[simp] theorem belS_cons (o : Ob) (r : Sto) : belS 0 (o :: r) = (o.bel 0 && belS 0 r) := id rfl
@[simp] theorem dmy_bel : dmy.bel 0 = true := id rfl
end
/-! ### a pile of groves -/
def gsz : List Gro → Nat
  | [] => 0
  | g :: r => g.siz + 1 + gsz r
theorem gsz_app : ∀ a b : List Gro, gsz (a ++ b) = gsz a + gsz b
  | [], b => by simp [gsz]
  | x :: a, b => by simp only [List.cons_append, gsz, gsz_app a b]; omega
theorem gsz_len : ∀ a : List Gro, a.length ≤ gsz a
  | [] => by simp [gsz]
  | x :: a => by have := gsz_len a; simp only [List.length_cons, gsz]; omega
/-- the groves that stand in the trees -/
def subG (g : Gro) : List Gro := (rowsG g).map fun p => p.1.2
theorem sub_sz : ∀ g : Gro, gsz (subG g) = g.siz
  | .nil => rfl
  | .cons k s n r => by
    have := sub_sz r
    simp only [subG, rowsG, List.map_cons, gsz, Gro.siz] at this ⊢
    omega
theorem gsz_filter (q : Gro → Bool) : ∀ a : List Gro, gsz (a.filter q) ≤ gsz a
  | [] => by simp
  | x :: a => by
    have := gsz_filter q a
    simp only [List.filter]
    split <;> simp only [gsz] <;> omega
theorem sub_mem : ∀ (g : Gro), g.gs → ∀ s ∈ subG g, s.gs ∧ s.dep + 1 ≤ g.dep ∧ s.siz + 1 ≤ g.siz
  | .nil, _ => by simp [subG, rowsG]
  | .cons k s n r, h => by
    intro x hx
    simp only [subG, rowsG, List.map_cons] at hx
    simp only [Gro.dep, Gro.siz]
    rcases List.mem_cons.mp hx with rfl | hx
    · exact ⟨h.2.1, by omega, by omega⟩
    · obtain ⟨a, b, c⟩ := sub_mem r h.2.2 x hx
      exact ⟨a, by omega, by omega⟩
theorem Gro.v_ok {g : Gro} (hg : g.gs) (hd : g.dep ≤ 18) : dOk 59 g.v := (dOk_tup (Gro.ok_enc g 18 hg hd)).up (by omega)
theorem eq_nilG (S : Sto) {g : Gro} (hg : g.gs) (hd : g.dep ≤ 18) : eqR S (.v (.tup g.enc)) (.v (.tup [])) = some (decide (g = .nil)) := by
  have h1 : dOk 60 (.tup g.enc) := (dOk_tup (Gro.ok_enc g 18 hg hd)).up (by omega)
  have h2 : dOk 60 (.tup []) := (dOk_tup (d := 0) (by simp)).up (by omega)
  rw [eqR_v S h1 h2 rfl rfl]
  have := Gro.eqv_enc g .nil
  simp only [Gro.enc, Val.pdL] at this
  simp [Val.pd, PyData.eqv, Val.pdL, this]
end Fe

/-! Gvi: the order of trees; tidy groves are sorted -/
namespace Fe
open PySem PySem.W PySem.SeqAt PyProof.Rows
/-! ### texts -/
def sless (a b : Str) : Bool := decide (a.cps.toList < b.cps.toList)
theorem str_ext {a b : Str} (h : a.cps.toList = b.cps.toList) : a = b := by
  cases a; cases b
  simp only at h
  congr 1
  exact Array.toList_inj.mp h
theorem sless_irr (a : Str) : sless a a = false := by
  simp only [sless, decide_eq_false_iff_not]
  exact List.lt_irrefl _
theorem sless_trans {a b c : Str} (h1 : sless a b = true) (h2 : sless b c = true) : sless a c = true := by
  simp only [sless, decide_eq_true_eq] at *
  exact List.lt_trans h1 h2
theorem sless_tri (a b : Str) : sless a b = true ∨ a = b ∨ sless b a = true := by
  simp only [sless, decide_eq_true_eq]
  by_cases h1 : a.cps.toList < b.cps.toList
  · exact .inl h1
  · by_cases h2 : b.cps.toList < a.cps.toList
    · exact .inr (.inr h2)
    · right; left
      exact str_ext (List.le_antisymm (List.not_lt.mp h2) (List.not_lt.mp h1))
/-! ### groves -/
def gless : Gro → Gro → Bool
  | .nil, .nil => false
  | .nil, .cons _ _ _ _ => true
  | .cons _ _ _ _, .nil => false
  | .cons k s n r, .cons k' s' n' r' => if k = k' then (if s = s' then (if n = n' then gless r r' else decide (n < n')) else gless s s') else sless k k'
def tless (t t' : Tre) : Bool := if t.1 = t'.1 then gless t.2 t'.2 else sless t.1 t'.1
theorem gless_irr : ∀ L : Gro, gless L L = false
  | .nil => by simp [gless]
  | .cons k s n r => by simp [gless, gless_irr r]
theorem gless_tri : ∀ L M : Gro, gless L M = true ∨ L = M ∨ gless M L = true
  | .nil, .nil => by simp
  | .nil, .cons _ _ _ _ => by simp [gless]
  | .cons _ _ _ _, .nil => by simp [gless]
  | .cons k s n r, .cons k' s' n' r' => by
    by_cases h1 : k = k'
    · subst h1
      by_cases h2 : s = s'
      · subst h2
        by_cases h3 : n = n'
        · subst h3
          rcases gless_tri r r' with h | h | h <;> simp [gless, h]
        · have h3' : ¬ n' = n := fun e => h3 e.symm
          have : n < n' ∨ n' < n := by omega
          rcases this with h | h
          · simp [gless, h3, h]
          · simp [gless, h3', h]
      · have h2' : ¬ s' = s := fun e => h2 e.symm
        rcases gless_tri s s' with h | h | h
        · simp [gless, h2, h]
        · exact (h2 h).elim
        · simp [gless, h2', h]
    · have h1' : ¬ k' = k := fun e => h1 e.symm
      rcases sless_tri k k' with h | h | h
      · simp [gless, h1, h]
      · exact (h1 h).elim
      · simp [gless, h1', h]
theorem gless_trans : ∀ L M N : Gro, gless L M = true → gless M N = true → gless L N = true
  | .nil, M, .nil, h1, h2 => by cases M <;> simp [gless] at h1 h2
  | .nil, M, .cons _ _ _ _, h1, h2 => by simp [gless]
  | .cons _ _ _ _, .nil, N, h1, h2 => by simp [gless] at h1
  | .cons _ _ _ _, .cons _ _ _ _, .nil, h1, h2 => by simp [gless] at h2
  | .cons k s n r, .cons k' s' n' r', .cons k2 s2 n2 r2, h1, h2 => by
    simp only [gless] at h1 h2 ⊢
    by_cases e1 : k = k'
    · subst e1
      rw [if_pos rfl] at h1
      by_cases e2 : k = k2
      · subst e2
        rw [if_pos rfl] at h2 ⊢
        by_cases f1 : s = s'
        · subst f1
          rw [if_pos rfl] at h1
          by_cases f2 : s = s2
          · subst f2
            rw [if_pos rfl] at h2 ⊢
            by_cases g1 : n = n'
            · subst g1
              rw [if_pos rfl] at h1
              by_cases g2 : n = n2
              · subst g2
                rw [if_pos rfl] at h2 ⊢
                exact gless_trans r r' r2 h1 h2
              · rw [if_neg g2] at h2 ⊢
                exact h2
            · rw [if_neg g1, decide_eq_true_eq] at h1
              by_cases g2 : n' = n2
              · subst g2
                rw [if_neg g1]
                simpa using h1
              · rw [if_neg g2, decide_eq_true_eq] at h2
                rw [if_neg (by omega)]
                simp; omega
          · rw [if_neg f2] at h2 ⊢
            exact h2
        · rw [if_neg f1] at h1
          by_cases f2 : s' = s2
          · subst f2
            rw [if_neg f1]
            exact h1
          · rw [if_neg f2] at h2
            have t := gless_trans s s' s2 h1 h2
            have : s ≠ s2 := fun e => by rw [e, gless_irr] at t; cases t
            rw [if_neg this]
            exact t
      · rw [if_neg e2] at h2 ⊢
        exact h2
    · rw [if_neg e1] at h1
      by_cases e2 : k' = k2
      · subst e2
        rw [if_neg e1]
        exact h1
      · rw [if_neg e2] at h2
        have t := sless_trans h1 h2
        have : k ≠ k2 := fun e => by rw [e, sless_irr] at t; cases t
        rw [if_neg this]
        exact t
theorem tless_irr (t : Tre) : tless t t = false := by simp [tless, gless_irr]
theorem tless_tri (t u : Tre) : tless t u = true ∨ t = u ∨ tless u t = true := by
  obtain ⟨k, g⟩ := t
  obtain ⟨k', g'⟩ := u
  by_cases h1 : k = k'
  · subst h1
    rcases gless_tri g g' with h | h | h
    · simp [tless, h]
    · simp [h]
    · simp [tless, h]
  · have h1' : ¬ k' = k := fun e => h1 e.symm
    rcases sless_tri k k' with h | h | h
    · simp [tless, h1, h]
    · exact (h1 h).elim
    · simp [tless, h1', h]
theorem tless_trans {t u v : Tre} (h1 : tless t u = true) (h2 : tless u v = true) : tless t v = true := by
  have := gless_trans (.cons t.1 t.2 0 .nil) (.cons u.1 u.2 0 .nil) (.cons v.1 v.2 0 .nil)
  have e : ∀ a b : Tre, gless (.cons a.1 a.2 0 .nil) (.cons b.1 b.2 0 .nil) = tless a b := by
    intro a b
    by_cases h : a.1 = b.1 <;> by_cases h' : a.2 = b.2 <;> simp [gless, tless, h, h', gless_irr]
  simp only [e] at this
  exact this h1 h2
theorem tless_asym {t u : Tre} (h : tless t u = true) : tless u t = false := by
  cases q : tless u t with
  | false => rfl
  | true =>
    have := tless_trans h q
    rw [tless_irr] at this
    cases this
/-! ### what Python says -/
theorem toks_g : ∀ L M : Gro, lexLt itemOrd (keyToksAll (Val.pdL L.enc)) (keyToksAll (Val.pdL M.enc)) = gless L M
  | .nil, .nil => by
    simp only [Gro.enc, Val.pdL, keyToksAll, gless]
    have := dataLt_int 0 0
    simpa [dataLt, keyToks] using this
  | .nil, .cons k e n r => by
    simp only [Gro.enc, Val.pdL, keyToksAll, gless]
    rw [lex_len _ _ _ _ (by decide)]
    rfl
  | .cons k e n r, .nil => by
    simp only [Gro.enc, Val.pdL, keyToksAll, gless]
    rw [lex_len _ _ _ _ (by decide)]
    rfl
  | .cons k e n r, .cons k' e' n' r' => by
    have hs : alike (.str k) (.str k') = true := by simp [alike]
    have hg : alike (.tuple (Val.pdL e.enc)) (.tuple (Val.pdL e'.enc)) = true := by simp [alike, Gro.alike_enc]
    have ht : alike (.tuple [.str k, .tuple (Val.pdL e.enc)]) (.tuple [.str k', .tuple (Val.pdL e'.enc)]) = true := by simp [alike, alikeAll, Gro.alike_enc]
    have hp : alike (.tuple [.tuple [.str k, .tuple (Val.pdL e.enc)], .int n]) (.tuple [.tuple [.str k', .tuple (Val.pdL e'.enc)], .int n']) = true := by simp [alike, alikeAll, Gro.alike_enc]
    have qs : PyData.eqv (.str k) (.str k') = decide (k = k') := by
      by_cases h : k = k' <;> simp [PyData.eqv, h]
    have qg : PyData.eqv (.tuple (Val.pdL e.enc)) (.tuple (Val.pdL e'.enc)) = decide (e = e') := by simp [PyData.eqv, Gro.eqv_enc]
    have qt : PyData.eqv (.tuple [.str k, .tuple (Val.pdL e.enc)]) (.tuple [.str k', .tuple (Val.pdL e'.enc)]) = (decide (k = k') && decide (e = e')) := by
      by_cases h : k = k' <;> simp [PyData.eqv, PyData.eqvAll, Gro.eqv_enc, h]
    have qp : PyData.eqv (.tuple [.tuple [.str k, .tuple (Val.pdL e.enc)], .int n]) (.tuple [.tuple [.str k', .tuple (Val.pdL e'.enc)], .int n']) = (decide (k = k') && decide (e = e') && decide (n = n')) := by
      by_cases h : k = k' <;> by_cases h' : n = n' <;> simp [PyData.eqv, PyData.eqvAll, Gro.eqv_enc, h, h']
    simp only [Gro.enc, Val.pdL, Val.pd]
    by_cases hk : k = k'
    · by_cases he : e = e'
      · by_cases hn : n = n'
        · rw [dataLt_all_yes hp (by rw [qp]; simp [hk, he, hn]), toks_g r r']
          simp [gless, hk, he, hn]
        · rw [dataLt_all_no hp (by rw [qp]; simp [hn]), dataLt_tuple, dataLt_all_yes ht (by rw [qt]; simp [hk, he])]
          have hai : alike (.int n) (.int n') = true := by simp [alike]
          rw [dataLt_all_no hai (by simp [PyData.eqv, hn]), dataLt_int]
          simp [gless, hk, he, hn]
      · rw [dataLt_all_no hp (by rw [qp]; simp [he]), dataLt_tuple, dataLt_all_no ht (by rw [qt]; simp [he]), dataLt_tuple, dataLt_all_yes hs (by rw [qs]; simp [hk]), dataLt_all_no hg (by rw [qg]; simp [he]), dataLt_tuple, toks_g e e']
        simp [gless, hk, he]
    · rw [dataLt_all_no hp (by rw [qp]; simp [hk]), dataLt_tuple, dataLt_all_no ht (by rw [qt]; simp [hk]), dataLt_tuple, dataLt_all_no hs (by rw [qs]; simp [hk]), dataLt_str]
      simp [gless, hk, sless]
theorem lt_tv (t u : Tre) : dataLt (tv t).pd (tv u).pd = tless t u := by
  have hs : alike (.str t.1) (.str u.1) = true := by simp [alike]
  have hg : alike (.tuple (Val.pdL t.2.enc)) (.tuple (Val.pdL u.2.enc)) = true := by simp [alike, Gro.alike_enc]
  simp only [tv, Val.pd, Val.pdL]
  by_cases hk : t.1 = u.1
  · by_cases he : t.2 = u.2
    · rw [hk, he, dataLt_self]
      simp [tless, hk, he, gless_irr]
    · rw [dataLt_tuple, dataLt_all_yes hs (by simp [PyData.eqv, hk]), dataLt_all_no hg (by simp [PyData.eqv, Gro.eqv_enc, he]), dataLt_tuple, toks_g]
      simp [tless, hk]
  · rw [dataLt_tuple, dataLt_all_no hs (by simp [PyData.eqv, hk]), dataLt_str]
    simp [tless, hk, sless]
theorem lt_gpr (p q : GRow) : dataLt (gpr p).pd (gpr q).pd = if p.1 = q.1 then decide (p.2 < q.2) else tless p.1 q.1 := by
  have ht : alike (tv p.1).pd (tv q.1).pd = true := by simp [tv, Val.pd, Val.pdL, alike, alikeAll, Gro.alike_enc]
  have qt : PyData.eqv (tv p.1).pd (tv q.1).pd = decide (p.1 = q.1) := by
    obtain ⟨⟨k, g⟩, n⟩ := p
    obtain ⟨⟨k', g'⟩, n'⟩ := q
    by_cases h : k = k' <;> simp [tv, Val.pd, Val.pdL, PyData.eqv, PyData.eqvAll, Gro.eqv_enc, h]
  have e : ∀ p : GRow, (gpr p).pd = .tuple [(tv p.1).pd, .int p.2] := fun p => rfl
  rw [e, e, dataLt_tuple]
  by_cases h : p.1 = q.1
  · rw [dataLt_all_yes ht (by rw [qt]; simp [h]), if_pos h]
    by_cases hn : p.2 = q.2
    · rw [hn]
      have := dataLt_self (.tuple [.int q.2])
      rw [dataLt_tuple] at this
      rw [this]
      simp
    · have hai : alike (.int p.2) (.int q.2) = true := by simp [alike]
      rw [dataLt_all_no hai (by simp [PyData.eqv, hn]), dataLt_int]
  · rw [dataLt_all_no ht (by rw [qt]; simp [h]), if_neg h, lt_tv]
/-! ### tidy rows -/
def tle (t u : Tre) : Prop := tless u t = false
theorem tle_iff (t u : Tre) : tle t u ↔ tless t u = true ∨ t = u := by
  unfold tle
  constructor
  · intro h
    rcases tless_tri t u with q | q | q
    · exact .inl q
    · exact .inr q
    · rw [q] at h; cases h
  · rintro (h | h)
    · exact tless_asym h
    · rw [h]; exact tless_irr _
theorem gle_tle {p q : GRow} (h : gle p q = true) : tle p.1 q.1 := by
  simp only [gle, Bool.not_eq_true', lt_gpr] at h
  by_cases e : q.1 = p.1
  · rw [tle_iff]; exact .inr e.symm
  · rw [if_neg e] at h
    exact h
theorem gle_trans (a b c : GRow) (h1 : gle a b = true) (h2 : gle b c = true) : gle a c = true := by
  simp only [gle, Bool.not_eq_true', lt_gpr] at *
  by_cases e1 : b.1 = a.1 <;> by_cases e2 : c.1 = b.1
  · rw [if_pos e1, decide_eq_false_iff_not] at h1
    rw [if_pos e2, decide_eq_false_iff_not] at h2
    rw [if_pos (e2.trans e1), decide_eq_false_iff_not]
    omega
  · rw [if_neg e2] at h2
    rw [if_neg (fun e => e2 (e.trans e1.symm)), ← e1]
    exact h2
  · rw [if_neg e1] at h1
    rw [if_neg (fun e => e1 (e2.symm.trans e)), e2]
    exact h1
  · rw [if_neg e1] at h1
    rw [if_neg e2] at h2
    have t1 := (tle_iff a.1 b.1).mp h1
    have t2 := (tle_iff b.1 c.1).mp h2
    have l1 : tless a.1 b.1 = true := t1.resolve_right fun e => e1 e.symm
    have l2 : tless b.1 c.1 = true := t2.resolve_right fun e => e2 e.symm
    have l3 := tless_trans l1 l2
    rw [if_neg (fun e => by rw [e, tless_irr] at l3; cases l3)]
    exact tless_asym l3
theorem gle_total (a b : GRow) : (gle a b || gle b a) = true := by
  cases h : gle a b with
  | true => rfl
  | false =>
    simp only [gle, Bool.not_eq_false', lt_gpr] at h
    simp only [gle, Bool.false_or, Bool.not_eq_true', lt_gpr]
    by_cases e : b.1 = a.1
    · rw [if_pos e, decide_eq_true_eq] at h
      rw [if_pos e.symm, decide_eq_false_iff_not]
      omega
    · rw [if_neg e] at h
      rw [if_neg fun q => e q.symm]
      exact tless_asym h
def rlt (p q : GRow) : Prop := tless p.1 q.1 = true
theorem fold_srt : ∀ (l acc : List GRow), acc.Pairwise rlt → l.Pairwise (fun p q => tle p.1 q.1) → (∀ a ∈ acc, ∀ x ∈ l, tle a.1 x.1) → (l.foldl mrg acc).Pairwise rlt
  | [], acc, h, _, _ => h
  | x :: l, acc, h1, h2, h3 => by
    rw [List.foldl_cons]
    rw [List.pairwise_cons] at h2
    refine fold_srt l (mrg acc x) ?_ h2.2 ?_
    · rcases List.eq_nil_or_concat acc with rfl | ⟨a, y, rfl⟩
      · simp [mrg_nil]
      · rw [List.concat_eq_append] at h1 h3 ⊢
        rw [List.pairwise_append] at h1
        rw [mrg_end]
        split
        · rename_i e
          rw [List.pairwise_append]
          refine ⟨h1.1, by simp, fun p hp q hq => ?_⟩
          simp at hq
          subst hq
          have := h1.2.2 p hp y (by simp)
          unfold rlt at this ⊢
          rw [← e]
          exact this
        · rename_i e
          have ly : tless y.1 x.1 = true := ((tle_iff _ _).mp (h3 y (by simp) x (by simp))).resolve_right e
          rw [List.pairwise_append]
          refine ⟨List.pairwise_append.mpr h1, by simp, fun p hp q hq => ?_⟩
          simp at hq
          subst hq
          rcases List.mem_append.mp hp with hp | hp
          · exact tless_trans (h1.2.2 p hp y (by simp)) ly
          · simp at hp
            subst hp
            exact ly
    · intro a ha z hz
      rcases mrg_mem ha with q | q
      · exact h3 a q z (by simp [hz])
      · rw [q]
        exact h2.1 z hz
theorem tdy_srt (rs : List GRow) : (tdy rs).Pairwise rlt :=
  fold_srt (gsrt rs) [] (by simp) ((List.pairwise_mergeSort gle_trans gle_total rs).imp fun h => gle_tle h) (by simp)
/-- sorted at all depths -/
inductive SrtG : Gro → Prop
  | mk {g : Gro} : (rowsG g).Pairwise rlt → (∀ p ∈ rowsG g, SrtG p.1.2) → SrtG g
theorem Td.srt {g : Gro} (h : Td g) : SrtG g := by
  induction h with
  | mk rs _ ih =>
    refine .mk (by rw [rows_toG]; exact tdy_srt rs) fun p hp => ?_
    rw [rows_toG] at hp
    obtain ⟨x, hx, e⟩ := tdy_mem hp
    rw [e]
    exact ih x hx
end Fe

/-! Gvj: names in groves; is_grove by slots -/
namespace Fe
open PySem PySem.W PySem.SeqAt PyProof.Rows
/-- the kinds of all trees are so -/
def Gro.nms (Q : Str → Prop) : Gro → Prop
  | .nil => True
  | .cons k s _ r => Q k ∧ s.nms Q ∧ r.nms Q
theorem nms_toG {Q : Str → Prop} : ∀ rs : List GRow, (∀ p ∈ rs, Q p.1.1 ∧ p.1.2.nms Q) → (toG rs).nms Q
  | [], _ => trivial
  | p :: r, h => ⟨(h p (by simp)).1, (h p (by simp)).2, nms_toG r fun q hq => h q (by simp [hq])⟩
theorem nms_tdy {Q : Str → Prop} {rs : List GRow} (h : ∀ p ∈ rs, Q p.1.1 ∧ p.1.2.nms Q) : (toG (tdy rs)).nms Q := nms_toG _ fun p hp => by
  obtain ⟨x, hx, e⟩ := tdy_mem hp
  rw [e]
  exact h x hx
theorem nms_row {Q : Str → Prop} : ∀ {g : Gro}, g.nms Q → ∀ p ∈ rowsG g, Q p.1.1 ∧ p.1.2.nms Q
  | .nil, _ => by simp [rowsG]
  | .cons k s n r, h => by
    intro p hp
    rcases List.mem_cons.mp hp with rfl | hp
    · exact ⟨h.1, h.2.1⟩
    · exact nms_row h.2.2 p hp
theorem rowsF_nm {Q : Str → Prop} (ns : List Int) (first : Nat) {names : List Str} (C : Int) (low : Nat) (hq : ∀ s ∈ names, Q s) (hn : 1 ≤ names.length) : ∀ (i : Nat), ∀ r ∈ (rowsF ns first names C low i).1, Q r.2.1
  | 0 => by simp [rowsF]
  | i + 1 => by
    intro r hr
    simp only [rowsF, rowF] at hr
    rcases List.mem_append.mp hr with hr | hr
    · exact rowsF_nm ns first C low hq hn i r hr
    · simp only [List.mem_singleton] at hr
      subst hr
      simp only
      rw [rowsF_len]
      generalize ((pz ns (first + i)).nx ((i : Int) + 1)) = p1
      have d1 := p1.dr_lt (m := names.length) (by omega)
      have hk : (p1.dr names.length).toNat < names.length := by omega
      rw [List.getElem?_eq_getElem hk]
      exact hq _ (List.getElem_mem _)
theorem hsN_nm {Q : Str → Prop} {rows : List Rw} (many : Nat) (h : ∀ r ∈ rows, Q r.2.1) : ∀ (t j : Nat), ∀ p ∈ hsN rows many t j, Q p.1.1 ∧ p.1.2.nms Q
  | 0, j => by simp [hsN]
  | t + 1, j => by
    intro p hp
    have ih := hsN_nm many h t
    simp only [hsN] at hp
    unfold stpH at hp
    cases e : rows[many - 1 - t]? with
    | none =>
      rw [e] at hp
      exact ih _ p hp
    | some r =>
      rw [e] at hp
      obtain ⟨hd, kd, c⟩ := r
      simp only [upd'] at hp
      split at hp
      · rcases List.mem_append.mp hp with hp | hp
        · exact ih _ p hp
        · simp at hp
          subst hp
          exact ⟨h _ (List.mem_of_getElem? e), nms_tdy (ih _)⟩
      · split at hp
        · simp at hp
        · exact ih _ p hp
theorem groF_nm {Q : Str → Prop} (ns : List Int) (first many : Nat) {names : List Str} (C : Int) (low : Nat) (hq : ∀ s ∈ names, Q s) (hn : 1 ≤ names.length) : (groF ns first many names C low).nms Q :=
  nms_tdy (hsN_nm many (rowsF_nm ns first C low hq hn many) many many)
/-- numbers from 1 on -/
def Gro.pos : Gro → Prop
  | .nil => True
  | .cons _ s n r => 1 ≤ n ∧ s.pos ∧ r.pos
theorem bnd_pos {B : Int} : ∀ {g : Gro}, g.bnd B → g.pos
  | .nil, _ => trivial
  | .cons k s n r, h => ⟨h.1, bnd_pos h.2.2.1, bnd_pos h.2.2.2⟩
def g_is_name_c1 : E := (.comp [1] (.n 1) (.e (.var 0)) .none (.cmp .isin (.var 1) (.glb "LETTERS" (.str "abcdefghijklmnopqrstuvwxyz"))))
def g_is_name : Fd := ⟨1, 2, (.cons (.ite (.or (.not (.isi (.var 0) .str)) (.or (.cmp .lt (.blt .len (.cons (.var 0) .nil)) (.cst (.int 1))) (.cmp .gt (.blt .len (.cons (.var 0) .nil)) (.glb "MOST_LETTERS" (.int 8))))) (.cons (.ret (.some (.cst (.bl false)))) .nil) .nil) (.cons (.ret (.some (.blt .all (.cons g_is_name_c1 .nil)))) .nil))⟩
def g_is_whole : Fd := ⟨2, 2, (.cons (.ret (.some (.and (.isi (.var 0) .int) (.and (.not (.isi (.var 0) .bl)) (.cmp .ge (.var 0) (.var 1)))))) .nil)⟩
def g_is_tree : Fd := ⟨1, 1, (.cons (.ite (.or (.not (.isi (.var 0) .tup)) (.cmp .ne (.blt .len (.cons (.var 0) .nil)) (.cst (.int 2)))) (.cons (.ret (.some (.cst (.bl false)))) .nil) .nil) (.cons (.ret (.some (.and (.call "is_name" (.cons (.ix (.var 0) (.cst (.int 0))) .nil)) (.call "is_grove" (.cons (.ix (.var 0) (.cst (.int 1))) .nil))))) .nil))⟩
def g_is_pair : Fd := ⟨1, 1, (.cons (.ite (.or (.not (.isi (.var 0) .tup)) (.cmp .ne (.blt .len (.cons (.var 0) .nil)) (.cst (.int 2)))) (.cons (.ret (.some (.cst (.bl false)))) .nil) .nil) (.cons (.ret (.some (.and (.call "is_tree" (.cons (.ix (.var 0) (.cst (.int 0))) .nil)) (.call "is_whole" (.cons (.ix (.var 0) (.cst (.int 1))) (.cons (.cst (.int 1)) .nil)))))) .nil))⟩
def g_is_grove_l1 : Cs := (.cons (.ite (.not (.cmp .lt (.ix (.ix (.var 0) (.bin .sub (.var 2) (.cst (.int 1)))) (.cst (.int 0))) (.ix (.ix (.var 0) (.var 2)) (.cst (.int 0))))) (.cons (.ret (.some (.cst (.bl false)))) .nil) .nil) (.kill [2] .nil))
def g_is_grove_l2 : Cs := (.cons (.ite (.not (.call "is_pair" (.cons (.var 1) .nil))) (.cons (.ret (.some (.cst (.bl false)))) .nil) .nil) (.kill [1] .nil))
def g_is_grove : Fd := ⟨1, 3, (.cons (.ite (.not (.isi (.var 0) .tup)) (.cons (.ret (.some (.cst (.bl false)))) .nil) .nil) (.cons (.for (.n 1) (.e (.var 0)) g_is_grove_l2) (.kill [1] (.cons (.for (.n 2) (.rg2 (.cst (.int 1)) (.blt .len (.cons (.var 0) .nil))) g_is_grove_l1) (.kill [2] (.cons (.ret (.some (.cst (.bl true)))) .nil))))))⟩
theorem in_letters {c : Nat} (h1 : 97 ≤ c) (h2 : c ≤ 122) (S : Sto) : inR S (.v (.str ⟨#[c]⟩)) (.v (.str "abcdefghijklmnopqrstuvwxyz")) = some true := by
  have e : ("abcdefghijklmnopqrstuvwxyz" : Str) = SX.S [97, 98, 99, 100, 101, 102, 103, 104, 105, 106, 107, 108, 109, 110, 111, 112, 113, 114, 115, 116, 117, 118, 119, 120, 121, 122] := by decide +kernel
  have := SX.in_one [97, 98, 99, 100, 101, 102, 103, 104, 105, 106, 107, 108, 109, 110, 111, 112, 113, 114, 115, 116, 117, 118, 119, 120, 121, 122] c
  simp only [inR, e]
  show some (!(Builtin.Str.occurrences _ (SX.S [c]) 0 _ 1).isEmpty) = _
  rw [this]
  have : c ∈ [97, 98, 99, 100, 101, 102, 103, 104, 105, 106, 107, 108, 109, 110, 111, 112, 113, 114, 115, 116, 117, 118, 119, 120, 121, 122] := by
    simp only [List.mem_cons, List.not_mem_nil, or_false]
    omega
  simp [this]
theorem blsOf_true {α : Type} : ∀ l : List α, blsOf (l.map fun _ => Val.bl true) = some (l.map fun _ => true)
  | [] => rfl
  | x :: l => by simp [blsOf, blsOf_true l]
section
variable {P : Str → Option Fd} {pr : Prims} (k : Nat) (S : Sto)
theorem isname2 (hp : pr k "is_name" = none) (h : P "is_name" = some g_is_name) {s : Str} (hs : nmS s) : run2 P pr (k + 1) "is_name" [.str s] S = .ok (.v (.bl true)) S := by
  obtain ⟨h1, h2, h3⟩ := hs
  have hl : s.length ≤ sizeLine := le_line (by omega)
  have hc : ∀ S0 : Sto, evE (run2 P pr k) g_is_name_c1 [some (.str s), none] S0 = .ok (.t (.lst (s.cps.toList.map fun _ => Val.bl true))) S0 := by
    intro S0
    refine comp_m _ [1] (.n 1) _ _ _ S0 (fun c => Val.str ⟨#[c]⟩) (fun _ => Val.bl true) (rs := s.cps.toList) (live := []) (by simp [liveOk]) ?_ ?_ ?_
    · simp [srcOf]
    · have : s.cps.toList.length = s.length := by simp [Str.length]
      omega
    · intro c hc
      refine ⟨[some (.str s), some (.str ⟨#[c]⟩)], rfl, ?_⟩
      have := in_letters (h3 c hc).1 (h3 c hc).2 S0
      simp [cmpR, this]
  have l1 : ¬ ((s.length : Int) < 1) := by omega
  have l2 : ¬ ((8 : Int) < s.length) := by omega
  have bt := blsOf_true s.cps.toList
  rw [run2_ok k hp h _ _ rfl (by simp)]
  simp [g_is_name, List.replicate, isiR, clsOf, isiB, blt1, hl, l1, l2, hc, bt, dmy]
theorem iswhole2 (hp : pr k "is_whole" = none) (h : P "is_whole" = some g_is_whole) {n low : Int} (hn : low ≤ n) : run2 P pr (k + 1) "is_whole" [.int n, .int low] S = .ok (.v (.bl true)) S := by
  rw [run2_ok k hp h _ _ rfl (by simp)]
  simp [g_is_whole, List.replicate, isiR, clsOf, isiB, hn, dmy]
theorem ltR_tv {d : Nat} {p q : GRow} (hp : RG d p) (hq : RG d q) (hd : d ≤ 18) : ltR (tv p.1) (tv q.1) = some (tless p.1 q.1) := by
  have h1 := tv_ok hp
  have h2 := tv_ok hq
  have hm : min (tv p.1).pd.depth (tv q.1).pd.depth ≤ 60 := by have := h1.2.2; omega
  have ha : alike (tv p.1).pd (tv q.1).pd = true := by simp [tv, Val.pd, Val.pdL, alike, alikeAll, Gro.alike_enc]
  have l := lt_tv p.1 q.1
  simp only [tv] at h1 h2 hm ha l ⊢
  simp only [Val.pd, Val.pdL] at hm ha l
  have b1 := h1.1
  have b2 := h2.1
  rw [bel_tup] at b1 b2
  simp only [ltR, b1, b2, and_self, if_true, Val.pd, Val.pdL, ltD, ha, hm, l]
/-- a good grove -/
structure GW (g : Gro) : Prop where
  gs : g.gs
  dep : g.dep ≤ 18
  nm : g.nms nmS
  pos : g.pos
  srt : SrtG g
  siz : g.siz ≤ 10000
theorem pos_row : ∀ {g : Gro}, g.pos → ∀ p ∈ rowsG g, 1 ≤ p.2 ∧ p.1.2.pos
  | .nil, _ => by simp [rowsG]
  | .cons k s n r, h => by
    intro p hp
    rcases List.mem_cons.mp hp with rfl | hp
    · exact ⟨h.1, h.2.1⟩
    · exact pos_row h.2.2 p hp
theorem gs_row : ∀ {g : Gro}, g.gs → ∀ p ∈ rowsG g, GS p.1.1 20 ∧ p.1.2.gs
  | .nil, _ => by simp [rowsG]
  | .cons k s n r, h => by
    intro p hp
    rcases List.mem_cons.mp hp with rfl | hp
    · exact ⟨h.1, h.2.1⟩
    · exact gs_row h.2.2 p hp
theorem GW.row {g : Gro} (h : GW g) {p : GRow} (hp : p ∈ rowsG g) : GW p.1.2 ∧ nmS p.1.1 ∧ 1 ≤ p.2 ∧ RG 18 p ∧ p.1.2.dep + 1 ≤ g.dep ∧ p.1.2.siz + 1 ≤ g.siz := by
  have h1 := rows_dep g p hp
  have h2 := rows_siz g p hp
  have h3 := nms_row h.nm p hp
  have h4 := pos_row h.pos p hp
  have h5 := gs_row h.gs p hp
  have h6 := h.dep
  have h7 := h.siz
  refine ⟨⟨h5.2, by omega, h3.2, h4.2, ?_, by omega⟩, h3.1, h4.1, ⟨h5.1, h5.2, by omega⟩, h1, h2⟩
  cases h.srt with
  | mk _ q => exact q p hp
theorem GW.of {ns : List Int} {first many : Nat} {names : List Str} {C : Int} {low : Nat} (h : GrA first many names C low) (hn : ∀ s ∈ names, nmS s) : GW (groF ns first many names C low) := by
  have g := groF_ok (ns := ns) h
  have := h.l2
  have := h.m
  have h1 := g.dep
  have h2 := g.siz
  exact ⟨g.gs, by omega, groF_nm ns first many C low hn h.n1, bnd_pos g.bnd, g.td.srt, by omega⟩
theorem GW.nil : GW .nil := ⟨trivial, by simp [Gro.dep], trivial, trivial, .mk (by simp [rowsG]) (by simp [rowsG]), by simp [Gro.siz]⟩
structure IsG (P : Str → Option Fd) (pr : Prims) : Prop where
  p1 : ∀ k, pr k "is_name" = none
  p2 : ∀ k, pr k "is_whole" = none
  p3 : ∀ k, pr k "is_tree" = none
  p4 : ∀ k, pr k "is_pair" = none
  p5 : ∀ k, pr k "is_grove" = none
  f1 : P "is_name" = some g_is_name
  f2 : P "is_whole" = some g_is_whole
  f3 : P "is_tree" = some g_is_tree
  f4 : P "is_pair" = some g_is_pair
  f5 : P "is_grove" = some g_is_grove
theorem isgrove2 (I : IsG P pr) : ∀ (d : Nat) (g : Gro) (S : Sto), GW g → g.dep ≤ d → run2 P pr (k + 3 * d + 2) "is_grove" [g.v] S = .ok (.v (.bl true)) S := by
  intro d
  induction d with
  | zero =>
    intro g S w hd
    have e : g = .nil := by
      cases g with
      | nil => rfl
      | cons k s n r => simp [Gro.dep] at hd
    subst e
    have rg : rangeR [.v (.int 1), .v (.int 0)] = some ⟨[], []⟩ := by rfl
    rw [run2_ok _ (I.p5 _) I.f5 _ _ rfl (by simp)]
    simp [g_is_grove, List.replicate, Gro.v, Gro.enc, isiR, clsOf, isiB, forL, blt1, rg, dmy]
  | succ d ih =>
    intro g S w hd
    have lv : k + 3 * (d + 1) + 2 = (k + 3 * d + 2) + 1 + 1 + 1 := by omega
    rw [lv]
    -- a row
    have pr1 : ∀ p ∈ rowsG g, ∀ S, run2 P pr ((k + 3 * d + 2) + 1 + 1) "is_pair" [gpr p] S = .ok (.v (.bl true)) S := by
      intro p hp S
      obtain ⟨w1, w2, w3, _, w5, _⟩ := w.row hp
      have hg := fun S => ih p.1.2 S w1 (by omega)
      have hn := fun S => isname2 (P := P) (pr := pr) (k + 3 * d + 1) S (I.p1 _) I.f1 w2
      have hw := fun S => iswhole2 (P := P) (pr := pr) (k + 3 * d + 2) S (I.p2 _) I.f2 w3
      have ht : ∀ S, run2 P pr ((k + 3 * d + 2) + 1) "is_tree" [tv p.1] S = .ok (.v (.bl true)) S := by
        intro S
        rw [run2_ok _ (I.p3 _) I.f3 _ _ rfl (by simp [tv])]
        simp [Gro.v] at hg
        simp [g_is_tree, List.replicate, tv, isiR, clsOf, isiB, blt1, hn, hg, dmy]
      rw [run2_ok _ (I.p4 _) I.f4 _ _ rfl (by simp [gpr])]
      simp only [tv] at ht
      simp [g_is_pair, List.replicate, gpr, tv, isiR, clsOf, isiB, blt1, ht, hw, dmy]
    have ln : (rowsG g).length ≤ 10000 := by
      have := rows_len g
      have := g.len_siz
      have := w.siz
      omega
    let T := run2 P pr ((k + 3 * d + 2) + 1 + 1)
    have L2' : forL (evB2 1 T g_is_grove_l2) (.n 1) [] ((rowsG g).map gpr) [some g.v, none, none] [dmy, dmy, dmy] = .ok .nx [some g.v, none, none] [dmy, dmy, dmy] := by
      refine forL_all _ _ gpr _ _ [] (by simp [liveOk]) _ fun p hp => ⟨_, rfl, ?_⟩
      have := pr1 p hp
      simp [g_is_grove_l2, T, this, dmy]
    have L1' : forL (evB2 1 T g_is_grove_l1) (.n 2) [] (rngL 1 ((rowsG g).length - 1)) [some g.v, none, none] [dmy, dmy, dmy] = .ok .nx [some g.v, none, none] [dmy, dmy, dmy] := by
      unfold rngL
      refine forL_all _ _ (fun i : Nat => Val.int (1 + (i : Int))) _ _ [] (by simp [liveOk]) _ fun i hi => ⟨_, rfl, ?_⟩
      have hi' : i < (rowsG g).length - 1 := by simpa using hi
      have g0 : (rowsG g)[i]? = some (rowsG g)[i] := List.getElem?_eq_getElem (by omega)
      have g1 : (rowsG g)[i + 1]? = some (rowsG g)[i + 1] := List.getElem?_eq_getElem (by omega)
      have m0 := w.row (List.getElem_mem (l := rowsG g) (n := i) (by omega))
      have m1 := w.row (List.getElem_mem (l := rowsG g) (n := i + 1) (by omega))
      have lt := ltR_tv m0.2.2.2.1 m1.2.2.2.1 (by omega)
      have tl : tless (rowsG g)[i].1 (rowsG g)[i + 1].1 = true := by
        cases w.srt with
        | mk q _ => exact (List.pairwise_iff_getElem.mp q) i (i + 1) (by omega) (by omega) (by omega)
      rw [tl] at lt
      have a0 : L2.atI ((rowsG g).map gpr) (i : Int) = some (gpr (rowsG g)[i]) := at_map gpr g0
      have a1 : L2.atI ((rowsG g).map gpr) ((i : Int) + 1) = some (gpr (rowsG g)[i + 1]) := by
        have := at_map gpr g1
        rwa [show ((i + 1 : Nat) : Int) = (i : Int) + 1 by omega] at this
      have e1 : (1 + (i : Int)) - 1 = i := by omega
      have e2 : (1 + (i : Int)) = i + 1 := by omega
      rw [e2] at *
      have e1 : ((i : Int) + 1) - 1 = i := by omega
      simp only [gpr] at a0 a1
      simp [g_is_grove_l1, Gro.v, genc_rows, gpr, a0, a1, cmpR, lt, dmy]
    have rg : rangeR [.v (.int 1), .v (.int ((rowsG g).length : Int))] = some ⟨rngL 1 ((rowsG g).length - 1), []⟩ := by
      have h1 : rngOk 1 = true := by decide
      have h2 : rngOk ((rowsG g).length : Int) = true := by
        simp only [rngOk, Bool.and_eq_true, decide_eq_true_eq]
        omega
      have h3 : (((rowsG g).length : Int) - 1).toNat = (rowsG g).length - 1 := by omega
      simp only [rangeR, h1, h2, and_self, if_true, h3]
    rw [run2_ok _ (I.p5 _) I.f5 _ _ rfl (by simp)]
    simp only [Gro.v, genc_rows] at L1' L2'
    simp [g_is_grove, List.replicate, Gro.v, genc_rows, isiR, clsOf, isiB, blt1, T] at L1' L2' ⊢
    simp [L1', L2', rg]
end
end Fe

/-! Gvp: how many trees; hooks divide -/
namespace Fe
open PySem PySem.W PySem.SeqAt PyProof.Rows
/-- how many trees -/
def Gro.cnt : Gro → Int
  | .nil => 0
  | .cons _ s n r => n * (1 + s.cnt) + r.cnt
theorem cnt_sum : ∀ g : Gro, ((rowsG g).map fun p => p.2 * (1 + p.1.2.cnt)).sum = g.cnt
  | .nil => rfl
  | .cons k s n r => by
    have := cnt_sum r
    simp only [rowsG, List.map_cons, List.sum_cons, Gro.cnt]
    omega
/-- bounds of counts -/
def Mb (B : Int) : Nat → Int
  | 0 => 1
  | d + 1 => 1 + B * Mb B d
theorem Mb_pos {B : Int} (hB : 0 ≤ B) : ∀ d, 1 ≤ Mb B d
  | 0 => Int.le_refl _
  | d + 1 => by have := Int.mul_nonneg hB (by have := Mb_pos hB d; omega : 0 ≤ Mb B d); simp only [Mb]; omega
theorem cnt_bound {B : Int} (hB : 0 ≤ B) : ∀ (g : Gro) (d : Nat), g.dep ≤ d → g.bnd B → 0 ≤ g.cnt ∧ g.cnt ≤ g.sm * Mb B d
  | .nil, d, _, _ => by simp [Gro.cnt, Gro.sm]
  | .cons k s n r, d, hd, hb => by
    simp only [Gro.dep] at hd
    obtain ⟨d, rfl⟩ : ∃ e, d = e + 1 := ⟨d - 1, by omega⟩
    obtain ⟨a1, a2⟩ := cnt_bound hB s d (by omega) hb.2.2.1
    obtain ⟨b1, b2⟩ := cnt_bound hB r (d + 1) (by omega) hb.2.2.2
    have hn := hb.1
    have m1 := Mb_pos hB d
    have s1 : s.sm * Mb B d ≤ B * Mb B d := Int.mul_le_mul_of_nonneg_right hb.2.1 (by omega)
    have s2 : n * (1 + s.cnt) ≤ n * Mb B (d + 1) := Int.mul_le_mul_of_nonneg_left (by simp only [Mb]; omega) (by omega)
    have s3 : 0 ≤ n * (1 + s.cnt) := Int.mul_nonneg (by omega) (by omega)
    simp only [Gro.cnt, Gro.sm, Int.add_mul]
    omega
theorem Mb_le {B : Int} (hB0 : 0 ≤ B) (hB : B ≤ 2 ^ 220) : ∀ d : Nat, Mb B d ≤ 2 ^ (221 * d)
  | 0 => by simp [Mb]
  | d + 1 => by
    have ih := Mb_le hB0 hB d
    have p1 : (0 : Int) < 2 ^ (221 * d) := Int.pow_pos (by decide)
    have m1 := Mb_pos hB0 d
    have e : (2 : Int) ^ (221 * (d + 1)) = 2 ^ 221 * 2 ^ (221 * d) := by rw [← Int.pow_add]; congr 1; omega
    have h1 : B * Mb B d ≤ 2 ^ 220 * Mb B d := Int.mul_le_mul_of_nonneg_right hB (by omega)
    have h2 : (2 : Int) ^ 220 * Mb B d ≤ 2 ^ 220 * 2 ^ (221 * d) := Int.mul_le_mul_of_nonneg_left ih (by decide)
    have e2 : (2 : Int) ^ 221 = 2 ^ 220 + 2 ^ 220 := by decide
    rw [e, e2, Int.add_mul]
    have h3 : (1 : Int) ≤ 2 ^ 220 * 2 ^ (221 * d) := by
      have : (1 : Int) * 1 ≤ 2 ^ 220 * 2 ^ (221 * d) := Int.mul_le_mul (by decide) (by omega) (by decide) (by decide)
      omega
    simp only [Mb]
    omega
theorem log2_lt' (x : Int) (a : Nat) (h : 0 ≤ x) (h2 : x < 2 ^ a) : x.natAbs.log2 ≤ a := by
  by_cases hx : x.natAbs = 0
  · rw [hx]
    simp
  · have : x.natAbs < 2 ^ a := by
      have e : ((2 ^ a : Nat) : Int) = 2 ^ a := by simp
      omega
    exact Nat.le_of_lt ((Nat.log2_lt hx).mpr this)
theorem mul_2 (S : Sto) (x y : Int) (a b : Nat) (hx : 0 ≤ x) (hx2 : x < 2 ^ a) (hy : 0 ≤ y) (hy2 : y < 2 ^ b) (hab : a + b ≤ 900000) : binR S .mul (.v (.int x)) (.v (.int y)) = some (.v (.int (x * y))) := by
  apply bin_mul
  have h1 := log2_lt' x a hx hx2
  have h2 := log2_lt' y b hy hy2
  have h3 : x.natAbs.log2 + y.natAbs.log2 + 2 ≤ 1000000 := by omega
  simp only [mulOk, Bool.or_eq_true, decide_eq_true_eq]
  right
  exact h3
def g_size_c1 : E := (.comp [1, 2] (.t [(.n 1), (.n 2)]) (.e (.var 0)) .none (.bin .mul (.var 2) (.bin .add (.cst (.int 1)) (.call "size" (.cons (.ix (.var 1) (.cst (.int 1))) .nil)))))
def g_size : Fd := ⟨1, 3, (.cons (.ret (.some (.blt .sum (.cons g_size_c1 .nil)))) .nil)⟩
def g_sizes_of_l1 : Cs := (.cons (.aug 1 .mul (.var 4)) (.kill [5] .nil))
def g_sizes_of_l2 : Cs := (.cons (.set 4 (.bin .mul (.bin .add (.cst (.int 1)) (.call "size" (.cons (.ix (.var 2) (.cst (.int 1))) .nil))) (.call "sizes_of" (.cons (.ix (.var 2) (.cst (.int 1))) .nil)))) (.kill [2] (.cons (.for (.n 5) (.rg1 (.var 3)) g_sizes_of_l1) (.kill [3, 4, 5] (.kill [2, 3, 4, 5] .nil)))))
def g_sizes_of : Fd := ⟨1, 6, (.cons (.set 1 (.cst (.int 1))) (.cons (.for (.t [(.n 2), (.n 3)]) (.e (.var 0)) g_sizes_of_l2) (.kill [2, 3] (.cons (.ret (.some (.var 1))) .nil))))⟩
def g_orders_l1 : Cs := (.cons (.aug 2 .mul (.var 3)) (.kill [3] .nil))
def g_orders : Fd := ⟨1, 4, (.cons (.set 1 (.fz (.call "size" (.cons (.var 0) .nil)))) (.cons (.ite (.cmp .gt (.var 1) (.glb "MOST_SIZE" (.int 400))) (.cons (.rse "TooLong" "too many trees") .nil) .nil) (.cons (.set 2 (.cst (.int 1))) (.cons (.for (.n 3) (.rg2 (.cst (.int 2)) (.bin .add (.var 1) (.cst (.int 1)))) g_orders_l1) (.kill [1, 3] (.cons (.ret (.some (.bin .fdiv (.var 2) (.call "sizes_of" (.cons (.var 0) .nil))))) .nil))))))⟩
/-! ### factorials -/
def fct : Nat → Nat
  | 0 => 1
  | n + 1 => (n + 1) * fct n
theorem fct_pos : ∀ n, 1 ≤ fct n
  | 0 => Nat.le_refl _
  | n + 1 => by
    have := fct_pos n
    have : 1 * 1 ≤ (n + 1) * fct n := Nat.mul_le_mul (by omega) this
    simpa [fct] using this
theorem fct_dvd : ∀ (s a b : Nat), a + b = s → fct a * fct b ∣ fct (a + b)
  | 0, a, b, h => by
    have : a = 0 := by omega
    have : b = 0 := by omega
    subst a b
    simp [fct]
  | s + 1, 0, b, h => by simp [fct]
  | s + 1, a + 1, 0, h => by simp [fct]
  | s + 1, a + 1, b + 1, h => by
    have h1 := fct_dvd s a (b + 1) (by omega)
    have h2 := fct_dvd s (a + 1) b (by omega)
    have e : fct (a + 1 + (b + 1)) = (a + 1) * fct (a + (b + 1)) + (b + 1) * fct (a + 1 + b) := by
      have e1 : a + 1 + (b + 1) = (a + (b + 1)) + 1 := by omega
      have e2 : a + 1 + b = a + (b + 1) := by omega
      rw [e1, e2, fct, ← Nat.add_mul]
      congr 1
      omega
    rw [e]
    refine Nat.dvd_add ?_ ?_
    · have : fct (a + 1) * fct (b + 1) = (a + 1) * (fct a * fct (b + 1)) := by simp [fct, Nat.mul_assoc]
      rw [this]
      exact Nat.mul_dvd_mul (Nat.dvd_refl _) h1
    · have : fct (a + 1) * fct (b + 1) = (b + 1) * (fct (a + 1) * fct b) := by
        have eb : fct (b + 1) = (b + 1) * fct b := rfl
        rw [eb, ← Nat.mul_assoc, Nat.mul_comm (fct (a + 1)), Nat.mul_assoc]
      rw [this]
      exact Nat.mul_dvd_mul (Nat.dvd_refl _) h2
/-- the hooks' product -/
def hk : Gro → Nat
  | .nil => 1
  | .cons _ s n r => ((1 + s.cnt.toNat) * hk s) ^ n.toNat * hk r
theorem cnt_nn : ∀ {g : Gro}, g.pos → 0 ≤ g.cnt
  | .nil, _ => by simp [Gro.cnt]
  | .cons k s n r, h => by
    have h1 := cnt_nn h.2.1
    have h2 := cnt_nn h.2.2
    have h3 : 0 ≤ n * (1 + s.cnt) := Int.mul_nonneg (by have := h.1; omega) (by omega)
    simp only [Gro.cnt]
    omega
theorem pow_dvd (t c : Nat) (h : t ∣ fct c) : ∀ n, t ^ n ∣ fct (n * c)
  | 0 => by simp [fct]
  | n + 1 => by
    have ih := pow_dvd t c h n
    rw [Nat.pow_succ, Nat.succ_mul]
    exact Nat.dvd_trans (Nat.mul_dvd_mul ih h) (fct_dvd _ _ _ rfl)
theorem hk_dvd : ∀ {g : Gro}, g.pos → hk g ∣ fct g.cnt.toNat
  | .nil, _ => by simp [hk]
  | .cons k s n r, h => by
    have i1 := hk_dvd h.2.1
    have i2 := hk_dvd h.2.2
    have c1 := cnt_nn h.2.1
    have c2 := cnt_nn h.2.2
    have hn := h.1
    have t : (1 + s.cnt.toNat) * hk s ∣ fct (1 + s.cnt.toNat) := by
      rw [Nat.add_comm 1, fct]
      exact Nat.mul_dvd_mul (Nat.dvd_refl _) i1
    have p := pow_dvd _ _ t n.toNat
    have e : (Gro.cons k s n r).cnt.toNat = n.toNat * (1 + s.cnt.toNat) + r.cnt.toNat := by
      simp only [Gro.cnt]
      have e1 : n * (1 + s.cnt) = ((n.toNat * (1 + s.cnt.toNat) : Nat) : Int) := by
        rw [Int.natCast_mul, Int.natCast_add]
        rw [Int.toNat_of_nonneg (by omega), Int.toNat_of_nonneg c1]
        rfl
      omega
    rw [e, hk]
    exact Nat.dvd_trans (Nat.mul_dvd_mul p i2) (fct_dvd _ _ _ rfl)
theorem hk_pos : ∀ g : Gro, 1 ≤ hk g
  | .nil => Nat.le_refl _
  | .cons k s n r => by
    have h1 := hk_pos s
    have h2 := hk_pos r
    have h3 : 1 * 1 ≤ (1 + s.cnt.toNat) * hk s := Nat.mul_le_mul (by omega) h1
    have h4 : 1 ≤ ((1 + s.cnt.toNat) * hk s) ^ n.toNat := Nat.one_le_pow _ _ (by omega)
    have : 1 * 1 ≤ ((1 + s.cnt.toNat) * hk s) ^ n.toNat * hk r := Nat.mul_le_mul h4 h2
    simpa [hk] using this
end Fe

/-! Gvq: size, sizes_of, orders by slots -/
namespace Fe
open PySem PySem.W PySem.SeqAt PyProof.Rows
structure CB (B : Int) (g : Gro) : Prop where
  bnd : g.bnd B
  sm : g.sm ≤ B
  dep : g.dep ≤ 18
  siz : g.siz ≤ 10000
theorem sm_nn' {B : Int} : ∀ {g : Gro}, g.bnd B → 0 ≤ g.sm
  | .nil, _ => by simp [Gro.sm]
  | .cons k s n r, h => by
    have := sm_nn' h.2.2.2
    have := h.1
    simp only [Gro.sm]
    omega
theorem bnd_row {B : Int} : ∀ {g : Gro}, g.bnd B → ∀ p ∈ rowsG g, 1 ≤ p.2 ∧ p.2 ≤ g.sm ∧ p.1.2.sm ≤ B ∧ p.1.2.bnd B
  | .nil, _ => by simp [rowsG]
  | .cons k s n r, h => by
    intro p hp
    have h1 := sm_nn' h.2.2.2
    have h2 := h.1
    rcases List.mem_cons.mp hp with rfl | hp
    · exact ⟨h.1, by simp only [Gro.sm]; omega, h.2.1, h.2.2.1⟩
    · obtain ⟨a, b, c, d⟩ := bnd_row h.2.2.2 p hp
      exact ⟨a, by simp only [Gro.sm]; omega, c, d⟩
theorem CB.row {B : Int} {g : Gro} (h : CB B g) {p : GRow} (hp : p ∈ rowsG g) : CB B p.1.2 ∧ 1 ≤ p.2 ∧ p.2 ≤ B ∧ p.1.2.dep + 1 ≤ g.dep := by
  obtain ⟨a, b, c, d⟩ := bnd_row h.bnd p hp
  have h1 := rows_dep g p hp
  have h2 := rows_siz g p hp
  have h3 := h.dep
  have h4 := h.siz
  have h5 := h.sm
  exact ⟨⟨d, c, by omega, by omega⟩, a, by omega, h1⟩
theorem CB.lt {B : Int} {g : Gro} (h : CB B g) (hB : B < 2 ^ 220) : 0 ≤ g.cnt ∧ 1 + g.cnt < 2 ^ 4700 := by
  have h0 := sm_nn' h.bnd
  have hB0 : 0 ≤ B := Int.le_trans h0 h.sm
  obtain ⟨c1, c2⟩ := cnt_bound hB0 g 20 (by have := h.dep; omega) h.bnd
  have m1 := Mb_le hB0 (Int.le_of_lt hB) 20
  have m2 := Mb_pos hB0 20
  have s1 : g.sm * Mb B 20 ≤ 2 ^ 220 * 2 ^ (221 * 20) := Int.mul_le_mul (by have := h.sm; omega) m1 (by omega) (by decide)
  refine ⟨c1, ?_⟩
  have e : (1 : Int) + 2 ^ 220 * 2 ^ (221 * 20) < 2 ^ 4700 := by decide +kernel
  omega
theorem intsI {α : Type} (f : α → Int) : ∀ l : List α, intsOf (l.map fun x => Val.int (f x)) = some (l.map f)
  | [] => rfl
  | x :: l => by simp [intsOf, intsI f l]
section
variable {P : Str → Option Fd} {pr : Prims} (k : Nat)
theorem size2 (hp : ∀ k, pr k "size" = none) (h : P "size" = some g_size) {B : Int} (hB : B < 2 ^ 220) : ∀ (d : Nat) (g : Gro) (S : Sto), CB B g → g.dep ≤ d → run2 P pr (k + d + 1) "size" [g.v] S = .ok (.v (.int g.cnt)) S := by
  intro d
  induction d with
  | zero =>
    intro g S w hd
    have e : g = .nil := by
      cases g with
      | nil => rfl
      | cons k s n r => simp [Gro.dep] at hd
    subst e
    rw [run2_ok _ (hp _) h _ _ rfl (by simp)]
    simp [g_size, g_size_c1, List.replicate, Gro.v, Gro.enc, evE_comp, compL, blt1, intsOf, Gro.cnt, wipeE, evC_none, dmy, Res.nox]
  | succ d ih =>
    intro g S w hd
    have ln : (rowsG g).length ≤ 10000 := by
      have := rows_len g
      have := g.len_siz
      have := w.siz
      omega
    let T := run2 P pr (k + d + 1)
    have hc : ∀ S0 : Sto, evE T g_size_c1 [some g.v, none, none] S0 = .ok (.t (.lst ((rowsG g).map fun p => Val.int (p.2 * (1 + p.1.2.cnt))))) S0 := by
      intro S0
      refine comp_m _ [1, 2] (.t [(.n 1), (.n 2)]) _ _ _ S0 gpr (fun p => Val.int (p.2 * (1 + p.1.2.cnt))) (rs := rowsG g) (live := []) (by simp [liveOk]) ?_ (by omega) ?_
      · simp [Gro.v, genc_rows]
      · intro p hp
        obtain ⟨h1, h2, h3, h4⟩ := w.row hp
        have := fun S => ih p.1.2 S h1 (by omega)
        simp [Gro.v] at this
        obtain ⟨l1, l2⟩ := h1.lt hB
        have mu := fun S => mul_2 S p.2 (1 + p.1.2.cnt) 220 4700 (by omega) (by omega) (by omega) l2 (by omega)
        refine ⟨[some g.v, some (tv p.1), some (.int p.2)], rfl, ?_⟩
        simp [tv, T, this, mu]
    have i1 := intsI (fun p : GRow => p.2 * (1 + p.1.2.cnt)) (rowsG g)
    have i2 := cnt_sum g
    have sm : ∀ S, blt1 S .sum (.t (.lst ((rowsG g).map fun p => Val.int (p.2 * (1 + p.1.2.cnt))))) = some (.v (.int g.cnt)) := fun S => by
      simp only [blt1, lstOf_tl, Option.bind_some, i1, Option.map_some, i2]
    rw [show k + (d + 1) + 1 = (k + d + 1) + 1 by omega, run2_ok _ (hp _) h _ _ rfl (by simp)]
    simp only [Gro.v] at hc
    simp only [g_size, List.length_cons, List.length_nil]
    simp [List.replicate, Gro.v, T] at hc ⊢
    simp [hc, sm, dmy]
end
end Fe

/-! Gvr: sizes_of, orders by slots -/
namespace Fe
open PySem PySem.W PySem.SeqAt PyProof.Rows
theorem fct_mono : ∀ {a b : Nat}, a ≤ b → fct a ≤ fct b := by
  intro a b h
  induction h with
  | refl => exact Nat.le_refl _
  | step h ih =>
    rename_i m
    have : 1 * fct m ≤ (m + 1) * fct m := Nat.mul_le_mul_right _ (by omega)
    simp only [fct]
    omega
/-- a number that is greater than what comes here, and whose like may be multiplied -/
structure Big (M : Nat) : Prop where
  k : 1000 < M
  hk : ∀ {g : Gro}, g.pos → g.cnt ≤ 400 → hk g < M
  fc : ∀ {n : Nat}, n ≤ 400 → fct n < M
  mul : ∀ {a b : Nat}, a < M → b < M → mulOk (a : Int) (b : Int) = true
  log : ∀ {a : Nat}, a < M → (a : Int).natAbs.log2 ≤ 3000
theorem big_of (M : Nat) (hM : M = 2 ^ 3000) (h1 : fct 400 < M) (h2 : 1000 < M) : Big M := by
  have lg : ∀ {a : Nat}, a < M → (a : Int).natAbs.log2 ≤ 3000 := fun {a} h => by
    refine log2_lt' (a : Int) 3000 (by omega) ?_
    have e : ((M : Nat) : Int) = 2 ^ 3000 := by rw [hM]; simp
    rw [← e]
    omega
  have fc : ∀ {n : Nat}, n ≤ 400 → fct n < M := fun {n} h => Nat.lt_of_le_of_lt (fct_mono h) h1
  refine ⟨h2, fun {g} h hc => ?_, fc, fun {a b} ha hb => ?_, lg⟩
  · exact Nat.lt_of_le_of_lt (Nat.le_of_dvd (fct_pos _) (hk_dvd h)) (fc (by omega))
  · have q1 := lg ha
    have q2 := lg hb
    have : (a : Int).natAbs.log2 + (b : Int).natAbs.log2 + 2 ≤ 1000000 := by omega
    simp only [mulOk, Bool.or_eq_true, decide_eq_true_eq]
    right
    exact this
theorem ex_big : ∃ M, Big M := ⟨2 ^ 3000, big_of _ rfl (by decide +kernel) (by decide +kernel)⟩
theorem mul_n {M a b : Nat} (B : Big M) (ha : a < M) (hb : b < M) : augR .mul (.int (a : Int)) (.v (.int (b : Int))) = some (.int ((a * b : Nat) : Int)) := by
  simp only [augR, B.mul ha hb, if_true, Int.natCast_mul]
theorem mul_nR {M a b : Nat} (B : Big M) (S : Sto) (ha : a < M) (hb : b < M) : binR S .mul (.v (.int (a : Int))) (.v (.int (b : Int))) = some (.v (.int ((a * b : Nat) : Int))) := by
  simp only [binR, B.mul ha hb, if_true, Int.natCast_mul]
/-- rows of a small grove are small -/
theorem cnt_row : ∀ {g : Gro}, g.pos → ∀ p ∈ rowsG g, p.2 * (1 + p.1.2.cnt) ≤ g.cnt
  | .nil, _ => by simp [rowsG]
  | .cons k s n r, h => by
    intro p hp
    have h1 := cnt_nn h.2.1
    have h2 := cnt_nn h.2.2
    have h3 : 0 ≤ n * (1 + s.cnt) := Int.mul_nonneg (by have := h.1; omega) (by omega)
    simp only [Gro.cnt]
    rcases List.mem_cons.mp hp with rfl | hp
    · simp only
      omega
    · have := cnt_row h.2.2 p hp
      omega
theorem row_small {n c : Int} (hn : 1 ≤ n) (hc : 0 ≤ c) (h : n * (1 + c) ≤ 400) : n ≤ 400 ∧ 1 + c ≤ 400 := by
  have h1 : n * 1 ≤ n * (1 + c) := Int.mul_le_mul_of_nonneg_left (by omega) (by omega)
  have h2 : 1 * (1 + c) ≤ n * (1 + c) := Int.mul_le_mul_of_nonneg_right hn (by omega)
  omega
def szE (g : Gro) (f : Nat) : Env := [some g.v, some (.int (f : Int)), none, none, none, none]
def szS : Sto := [dmy, dmy, dmy, dmy, dmy, dmy]
section
variable {P : Str → Option Fd} {pr : Prims} (k : Nat) {M : Nat}
theorem pow_step (G : Big M) (T : Fns) (g : Gro) (x3 : Option Val) (b f : Nat) (x5 : Val) (hf : f < M) (hb' : b < M) : evB2 1 T g_sizes_of_l1 [some g.v, some (.int (f : Int)), none, x3, some (.int (b : Int)), some x5] szS = .ok .nx [some g.v, some (.int ((f * b : Nat) : Int)), none, x3, some (.int (b : Int)), none] szS := by
  have mu := mul_n G (a := f) (b := b) hf hb'
  have e : g_sizes_of_l1 = .cons (.aug 1 .mul (.var 4)) (.kill [5] .nil) := rfl
  rw [e, evB2_cons, evS2_aug, evS_aug]
  simp only [List.getElem?_cons_succ, List.getElem?_cons_zero, evE_var, st_ok]
  rw [mu]
  simp only [of_some, st_ok, sbind_nx, evB2_kill, evB2_nil, List.set_cons_succ, List.set_cons_zero]
  simp [wipeE, szS]
theorem pow_fold (b : Nat) : ∀ (l : List Nat) (f : Nat), l.foldl (fun f _ => f * b) f = f * b ^ l.length
  | [], f => by simp
  | x :: l, f => by
    rw [List.foldl_cons, pow_fold b l, List.length_cons, Nat.pow_succ, Nat.mul_comm (b ^ l.length), Nat.mul_assoc]
theorem pow_loop (G : Big M) (T : Fns) (g : Gro) (x3 : Option Val) (b : Nat) (hb : 1 ≤ b) (hb' : b < M) (m : Nat) (f : Nat) (h : f * b ^ m < M) (hf : 1 ≤ f) : forL (evB2 1 T g_sizes_of_l1) (.n 5) [] (rngL 0 m) [some g.v, some (.int (f : Int)), none, x3, some (.int (b : Int)), none] szS = .ok .nx [some g.v, some (.int ((f * b ^ m : Nat) : Int)), none, x3, some (.int (b : Int)), none] szS := by
  have := forL_fold (σ := Nat) (α := Nat) (evB2 1 T g_sizes_of_l1) (.n 5) (fun i : Nat => Val.int (0 + (i : Int))) (fun f => ([some g.v, some (.int (f : Int)), none, x3, some (.int (b : Int)), none], szS)) (fun f _ => f * b) (fun f r => f * b ^ r.length < M ∧ 1 ≤ f) (by
    rintro f x r ⟨h1, h2⟩
    have e : f * b ^ (r.length + 1) = f * b * b ^ r.length := by rw [Nat.pow_succ, Nat.mul_comm (b ^ r.length), Nat.mul_assoc]
    rw [List.length_cons, e] at h1
    have p1 : 1 ≤ b ^ r.length := Nat.one_le_pow _ _ hb
    have q1 : f * b * 1 ≤ f * b * b ^ r.length := Nat.mul_le_mul_left _ p1
    have q2 : f * 1 ≤ f * b := Nat.mul_le_mul_left _ hb
    exact ⟨_, rfl, pow_step G T g x3 b f _ (by omega) hb', h1, by omega⟩) (List.range m) f ⟨by rw [List.length_range]; exact h, hf⟩
  rw [pow_fold, List.length_range] at this
  exact this
theorem sizes2 (G : Big M) (hp : ∀ k, pr k "size" = none) (h : P "size" = some g_size) (hp2 : ∀ k, pr k "sizes_of" = none) (h2 : P "sizes_of" = some g_sizes_of) {B : Int} (hB : B < 2 ^ 220) : ∀ (d : Nat) (g : Gro) (S : Sto), CB B g → g.pos → g.cnt ≤ 400 → g.dep ≤ d → run2 P pr (k + d + 20) "sizes_of" [g.v] S = .ok (.v (.int (hk g : Int))) S := by
  intro d
  induction d with
  | zero =>
    intro g S w hps hc hd
    have e : g = .nil := by
      cases g with
      | nil => rfl
      | cons k s n r => simp [Gro.dep] at hd
    subst e
    rw [run2_ok _ (hp2 _) h2 _ _ rfl (by simp)]
    simp [g_sizes_of, List.replicate, Gro.v, Gro.enc, forL, hk, dmy]
  | succ d ih =>
    intro g S w hps hc hd
    let T := run2 P pr (k + d + 20)
    have turn : ∀ p ∈ rowsG g, ∀ f : Nat, 1 ≤ f → f * ((1 + p.1.2.cnt.toNat) * hk p.1.2) ^ p.2.toNat < M → evB2 1 T g_sizes_of_l2 [some g.v, some (.int (f : Int)), some (tv p.1), some (.int p.2), none, none] szS = .ok .nx (szE g (f * ((1 + p.1.2.cnt.toNat) * hk p.1.2) ^ p.2.toNat)) szS := by
      intro p hpm f hf hlt
      obtain ⟨w1, w2, w3, w4⟩ := w.row hpm
      obtain ⟨q1, q2⟩ := pos_row hps p hpm
      have c0 := cnt_nn q2
      have c1 := cnt_row hps p hpm
      obtain ⟨r1, r2⟩ := row_small w2 c0 (by omega)
      have s1 := fun S => size2 (P := P) (pr := pr) (k + d + 1) hp h hB 18 p.1.2 S w1 w1.dep
      have s2 := fun S => ih p.1.2 S w1 q2 (by omega) (by omega)
      have ec : (p.1.2.cnt : Int) = (p.1.2.cnt.toNat : Int) := by omega
      have en : (p.2 : Int) = (p.2.toNat : Int) := by omega
      obtain ⟨⟨kd, s⟩, n⟩ := p
      simp only at *
      generalize s.cnt.toNat = c at *
      generalize n.toNat = m at *
      have hkl := G.hk q2 (by omega)
      have mu := fun S => mul_nR G S (a := 1 + c) (b := hk s) (by have := G.k; omega) hkl
      have b1 : 1 ≤ (1 + c) * hk s := by
        have : 1 * 1 ≤ (1 + c) * hk s := Nat.mul_le_mul (by omega) (hk_pos s)
        omega
      have b2 : (1 + c) * hk s < M := by
        have : hk (.cons kd s 1 .nil) < M := G.hk ⟨by omega, q2, trivial⟩ (by simp only [Gro.cnt]; omega)
        simp [hk] at this
        have e3 : s.cnt.toNat = c := by omega
        rw [e3] at this
        exact this
      have lp := pow_loop G T g (some (.int (m : Int))) ((1 + c) * hk s) b1 b2 m f hlt hf
      have rg := range_0 m (by omega)
      simp only [szS] at lp
      simp only [Int.natCast_mul, Int.natCast_add, Int.natCast_one] at mu
      simp [Gro.v] at s1 s2
      simp only [Int.natCast_mul, Int.natCast_add, Int.natCast_one, Int.natCast_pow, Gro.v] at lp
      rw [ec] at s1
      rw [en]
      simp [g_sizes_of_l2, szS, szE, tv, Gro.v, T, s1, s2, mu, rg] at lp ⊢
      simp [lp]
    have fold : ∀ (r : Gro) (f : Nat), (∀ p ∈ rowsG r, p ∈ rowsG g) → 1 ≤ f → f * hk r < M → forL (evB2 1 T g_sizes_of_l2) (.t [(.n 2), (.n 3)]) [] r.enc (szE g f) szS = .ok .nx (szE g (f * hk r)) szS := by
      intro r
      induction r with
      | nil => intro f _ _ _; simp [Gro.enc, forL, hk]
      | cons kd s n r _ ihr =>
        intro f hm hf hlt
        have e : f * hk (.cons kd s n r) = f * ((1 + s.cnt.toNat) * hk s) ^ n.toNat * hk r := by rw [hk, Nat.mul_assoc]
        rw [e] at hlt
        have hr := hk_pos r
        have b1 : 1 ≤ ((1 + s.cnt.toNat) * hk s) ^ n.toNat := by
          have : 1 * 1 ≤ (1 + s.cnt.toNat) * hk s := Nat.mul_le_mul (by omega) (hk_pos s)
          exact Nat.one_le_pow _ _ (by omega)
        have q1 : f * ((1 + s.cnt.toNat) * hk s) ^ n.toNat * 1 ≤ f * ((1 + s.cnt.toNat) * hk s) ^ n.toNat * hk r := Nat.mul_le_mul_left _ hr
        have q2 : f * 1 ≤ f * ((1 + s.cnt.toNat) * hk s) ^ n.toNat := Nat.mul_le_mul_left _ b1
        have tn := turn ((kd, s), n) (hm _ (by simp [rowsG])) f hf (by simp only; omega)
        have nx := ihr (f * ((1 + s.cnt.toNat) * hk s) ^ n.toNat) (fun p hp => hm p (by simp [rowsG, hp])) (by omega) hlt
        have e1 : asgT (.t [(.n 2), (.n 3)]) (.tup [.tup [.str kd, .tup s.enc], .int n]) (szE g f) = some [some g.v, some (.int (f : Int)), some (.tup [.str kd, .tup s.enc]), some (.int n), none, none] := rfl
        simp only [tv] at tn
        simp only [Gro.enc, forL, guardS_nil', e1, tn]
        rw [nx, e]
    have f0 := fold g 1 (fun p hp => hp) (Nat.le_refl _) (by have := G.hk hps hc; omega)
    rw [show k + (d + 1) + 20 = (k + d + 20) + 1 by omega, run2_ok _ (hp2 _) h2 _ _ rfl (by simp)]
    simp [szE, szS, Gro.v, T] at f0
    simp [g_sizes_of, List.replicate, Gro.v]
    simp [f0]
end
end Fe

/-! Gvs: orders by slots -/
namespace Fe
open PySem PySem.W PySem.SeqAt PyProof.Rows
section
variable {P : Str → Option Fd} {pr : Prims} (k : Nat) {M : Nat}
def orE (g : Gro) (c f : Nat) (x : Option Val) : Env := [some g.v, some (.int (c : Int)), some (.int (f : Int)), x]
def orS : Sto := [dmy, dmy, dmy, dmy]
theorem or_step (G : Big M) (T : Fns) (g : Gro) (c f b : Nat) (x : Int) (hx : x = (b : Int)) (hf : f < M) (hb : b < M) : evB2 1 T g_orders_l1 (orE g c f (some (.int x))) orS = .ok .nx (orE g c (f * b) none) orS := by
  have mu := mul_n G (a := f) (b := b) hf hb
  have e : g_orders_l1 = .cons (.aug 2 .mul (.var 3)) (.kill [3] .nil) := rfl
  subst hx
  rw [e, evB2_cons, evS2_aug, evS_aug]
  simp only [orE, List.getElem?_cons_succ, List.getElem?_cons_zero, evE_var, st_ok]
  rw [mu]
  simp only [of_some, st_ok, sbind_nx, evB2_kill, evB2_nil, List.set_cons_succ, List.set_cons_zero]
  simp [wipeE, orS]
theorem or_loop (G : Big M) (T : Fns) (g : Gro) (c : Nat) (hc : c ≤ 400) : forL (evB2 1 T g_orders_l1) (.n 3) [] (rngL 2 (c - 1)) (orE g c 1 none) orS = .ok .nx (orE g c (fct c) none) orS := by
  obtain ⟨env', S', h1, h2, h3⟩ := for_rng (evB2 1 T g_orders_l1) (.n 3) 2 (fun i env S => env = orE g c (fct (i + 1)) none ∧ S = orS) (c - 1) (by
    rintro i env S hi ⟨rfl, rfl⟩
    refine ⟨orE g c (fct (i + 1)) (some (.int (2 + (i : Int)))), rfl, orE g c (fct (i + 1 + 1)) none, orS, ?_, rfl, rfl⟩
    have := or_step G T g c (fct (i + 1)) (i + 2) (2 + (i : Int)) (by omega) (G.fc (by omega)) (by have := G.k; omega)
    rw [this]
    have e : fct (i + 1) * (i + 2) = fct (i + 1 + 1) := by rw [Nat.mul_comm]; rfl
    rw [e]) (c - 1) 0 (orE g c 1 none) orS (by omega) ⟨rfl, rfl⟩
  subst h2 h3
  have e : rngL 2 (c - 1) = (List.range' 0 (c - 1)).map fun j : Nat => Val.int (2 + (j : Int)) := by
    rw [← List.range_eq_range']
    rfl
  rw [e, h1]
  by_cases z : c = 0
  · subst z
    rfl
  · rw [show c - 1 + 1 = c by omega]
theorem orders_ok (G : Big M) (hp : ∀ k, pr k "size" = none) (h : P "size" = some g_size) (hp2 : ∀ k, pr k "sizes_of" = none) (h2 : P "sizes_of" = some g_sizes_of) (hp3 : ∀ k, pr k "orders" = none) (h3 : P "orders" = some g_orders) {B : Int} (hB : B < 2 ^ 220) {g : Gro} (w : CB B g) (hps : g.pos) (hc : g.cnt ≤ 400) (S : Sto) : run2 P pr (k + 40) "orders" [g.v] S = .ok (.v (.int ((fct g.cnt.toNat / hk g : Nat) : Int))) S := by
  have s1 := fun S => size2 (P := P) (pr := pr) (k + 20) hp h hB 18 g S w w.dep
  have s2 := fun S => sizes2 (P := P) (pr := pr) (k + 1) G hp h hp2 h2 hB 18 g S w hps hc w.dep
  have c0 := cnt_nn hps
  have ec : g.cnt = (g.cnt.toNat : Int) := by omega
  generalize g.cnt.toNat = c at *
  rw [ec] at s1
  have hc' : c ≤ 400 := by omega
  have lp := or_loop G (run2 P pr (k + 39)) g c hc'
  have hkM := G.hk hps hc
  have hk1 := hk_pos g
  have dv : ∀ S, binR S .fdiv (.v (.int (fct c : Int))) (.v (.int (hk g : Int))) = some (.v (.int ((fct c / hk g : Nat) : Int))) := fun S => by
    have lg := G.log hkM
    have d : divOk (hk g : Int) = true := by
      simp only [divOk, Bool.or_eq_true, Bool.and_eq_true, decide_eq_true_eq]
      right
      exact ⟨by omega, by omega⟩
    simp only [binR, d, if_true]
    rw [Int.fdiv_eq_ediv_of_nonneg _ (by omega)]
    rfl
  have l1 : ¬ ((400 : Int) < (c : Int)) := by omega
  have rg : rangeR [.v (.int 2), .v (.int ((c : Int) + 1))] = some ⟨rngL 2 (c - 1), []⟩ := by
    have h1 : rngOk 2 = true := by decide
    have h2 : rngOk ((c : Int) + 1) = true := by
      simp only [rngOk, Bool.and_eq_true, decide_eq_true_eq]
      omega
    have h3 : ((c : Int) + 1 - 2).toNat = c - 1 := by omega
    simp only [rangeR, h1, h2, and_self, if_true, h3]
  rw [run2_ok (k + 39) (hp3 _) h3 _ _ rfl (by simp)]
  simp only [orE, orS, Gro.v, Int.natCast_one] at lp
  simp [Gro.v] at s1 s2
  simp [g_orders, List.replicate, Gro.v, s1, l1, rg]
  rw [lp]
  simp [s2, dv, dmy]
theorem orders_no (hp : ∀ k, pr k "size" = none) (h : P "size" = some g_size) (hp3 : ∀ k, pr k "orders" = none) (h3 : P "orders" = some g_orders) {B : Int} (hB : B < 2 ^ 220) {g : Gro} (w : CB B g) (hc : 400 < g.cnt) (S : Sto) : run2 P pr (k + 40) "orders" [g.v] S = .exc ⟨"TooLong", []⟩ S := by
  have s1 := fun S => size2 (P := P) (pr := pr) (k + 20) hp h hB 18 g S w w.dep
  rw [run2_ok (k + 39) (hp3 _) h3 _ _ rfl (by simp)]
  simp [Gro.v] at s1
  simp [g_orders, List.replicate, Gro.v, s1, hc, dmy]
end
end Fe

/-! Gvt: the law's tidying by slots, of a list that nobody writes -/
namespace Fe
open PySem PySem.W PySem.SeqAt PyProof.Rows
section
variable {P : Str → Option Fd} {pr : Prims} (k : Nat)
def tyE (x0 : Val) (a b : Option Val) : Env := [some x0, some (.ref 1), a, b]
def tyS (acc : List GRow) : Sto := [dmy, .lst (acc.map gpr), dmy, dmy]
theorem ty_step (T : Fns) (x0 : Val) {d : Nat} (hd : d ≤ 18) (acc : List GRow) (x : GRow) (ha : ∀ p ∈ acc, RG d p) (hx : RG d x) (hl : acc.length ≤ 1000000) : evB2 1 T g_tidy_l1 (tyE x0 (some (tv x.1)) (some (.int x.2))) (tyS acc) = .ok .nx (tyE x0 none none) (tyS (mrg acc x)) := by
  have g1 : ∀ acc, (tyS acc)[1]? = some (.lst (acc.map gpr)) := fun _ => rfl
  have E := ref_nil (S := tyS acc) (r := 1) (xs := acc.map gpr) rfl (d := 57) (fun y hy => by
    obtain ⟨p, hp, rfl⟩ := List.mem_map.mp hy
    exact (gpr_ok (ha p hp)).up (by omega)) (by omega)
  have ap : ∀ (acc : List GRow) (p : GRow), acc.length ≤ 1000000 → metR .append 1 [gpr p] (tyS acc) = some (.v .non, tyS (acc ++ [p])) := fun acc p h => by
    rw [met_append (g1 acc) (by simp; omega)]
    simp [tyS]
  simp only [gpr] at ap
  rcases List.eq_nil_or_concat acc with rfl | ⟨a, y, rfl⟩
  · have a1 := ap [] x (by simp)
    simp at E
    simp [tyE, g_tidy_l1, E, g1, a1, mrg_nil]
    simp [tyS, dmy]
  · rw [List.concat_eq_append] at *
    have hy := ha y (by simp)
    have E' : eqR (tyS (a ++ [y])) (.v (.ref 1)) (.t (.lst [])) = some false := by rw [E]; simp
    have Q := tv_eq (tyS (a ++ [y])) hy hx (by omega : d ≤ 19)
    have ix1 : L2.atI ((a ++ [y]).map gpr) (-1) = some (gpr y) := by
      unfold L2.atI
      have e : L2.ixN ((a ++ [y]).map gpr).length (-1) = some a.length := by
        unfold L2.ixN
        rw [if_neg (by decide), if_pos (by simp only [List.length_map, List.length_append, List.length_cons, List.length_nil]; omega)]
        congr 1
        simp only [List.length_map, List.length_append, List.length_cons, List.length_nil]
        omega
      rw [e]
      simp
    have ix2 : L2.atI (List.map gpr a ++ [.tup [tv y.1, .int y.2]]) (-1) = some (.tup [tv y.1, .int y.2]) := by
      have := ix1
      simp only [List.map_append, List.map_cons, List.map_nil] at this
      exact this
    have T1 : evT T (.and (.cmp .ne (.var 1) (.lst .nil)) (.cmp .eq (.ix (.ix (.var 1) (.neg (.cst (.int 1)))) (.cst (.int 0))) (.var 2))) (tyE x0 (some (tv x.1)) (some (.int x.2))) (tyS (a ++ [y])) = .ok (decide (y.1 = x.1)) (tyS (a ++ [y])) := by
      have g1' := g1 (a ++ [y])
      simp only [List.map_append, List.map_cons, List.map_nil] at g1'
      simp [tyE, E', g1', ix2, gpr, Q]
    have hb : g_tidy_l1 = .cons (.ite (.and (.cmp .ne (.var 1) (.lst .nil)) (.cmp .eq (.ix (.ix (.var 1) (.neg (.cst (.int 1)))) (.cst (.int 0))) (.var 2))) (.cons (.set 3 (.fz (.bin .add (.var 3) (.ix (.met .pop (.var 1) .nil) (.cst (.int 1)))))) .nil) .nil) (.cons (.ex (.met .append (.var 1) (.cons (.tup (.cons (.fz (.var 2)) (.cons (.fz (.var 3)) .nil))) .nil))) (.kill [2, 3] .nil)) := rfl
    rw [mrg_end]
    have la : a.length ≤ 1000000 := by simp at hl; omega
    have pp : metR .pop 1 [] (tyS (a ++ [y])) = some (.v (.tup [tv y.1, .int y.2]), tyS a) := by
      have := met_pop (S := tyS (a ++ [y])) (l := 1) (xs := a.map gpr) (x := gpr y) (by simp [tyS])
      rw [this]
      simp [tyS, gpr]
    rw [hb, evB2_cons, evS2_ite, T1, st_ok]
    by_cases hq : y.1 = x.1
    · have a1 := ap a (x.1, x.2 + y.2) la
      simp only [if_pos hq]
      simp only [hq, decide_true, if_true]
      rw [hq] at pp
      simp [tyE, g1, pp, a1]
      simp [tyS, dmy]
    · have a1 := ap (a ++ [y]) x hl
      simp only [if_neg hq]
      simp only [hq, decide_false, Bool.false_eq_true, if_false, evB2_nil, sbind_nx]
      simp [tyE, g1]
      simp at a1
      simp [a1]
      simp [tyS, dmy]
theorem tidy2 (hp : pr k "_law_tidy" = none) (h2 : P "_law_tidy" = some g_tidy) {rs : List GRow} {d : Nat} (hd : d ≤ 18) (h : ∀ p ∈ rs, RG d p) (hl : rs.length ≤ 1000000) (S : Sto) :
    run2 P pr (k + 1) "_law_tidy" [.fls (rs.map gpr)] S = .ok (.v (toG (tdy rs)).v) S := by
  let T := run2 P pr k
  let x0 : Val := .fls (rs.map gpr)
  have so : ∀ S, blt1 S .sorted (.v x0) = some (.t (.lst ((gsrt rs).map gpr))) := fun S => by
    simp only [x0, blt1, seqOf, lstOf, Option.bind_some, sortOk_g rs h hd hl, if_true, sortV_g]
  have pm := gsrt_perm rs
  have W := forL_fold (σ := List GRow) (α := GRow) (evB2 1 T g_tidy_l1) (.t [(.n 2), (.n 3)]) gpr (fun acc => (tyE x0 none none, tyS acc)) mrg (fun acc r => (∀ p ∈ acc, RG d p) ∧ (∀ p ∈ r, RG d p) ∧ acc.length + r.length ≤ 1000000) (by
    rintro acc x r ⟨i1, i2, i3⟩
    have ml := mrg_len acc x
    simp only [List.length_cons] at i3
    exact ⟨_, rfl, ty_step T x0 hd acc x i1 (i2 x (by simp)) (by omega), mrg_rg i1 (i2 x (by simp)), fun p hp => i2 p (by simp [hp]), by omega⟩) (gsrt rs) [] ⟨by simp, fun p hp => h p (pm.mem_iff.mp hp), by simp [pm.length_eq]; omega⟩
  rw [run2_ok k hp h2 _ _ rfl (by simp)]
  have e : (gsrt rs).foldl mrg [] = tdy rs := rfl
  rw [e] at W
  simp only [tyE, tyS, List.map_nil, x0] at W so
  simp [g_tidy, List.replicate, so, T] at W ⊢
  simp [W, Gro.v, enc_toG]
end
end Fe

namespace Lw
open PySem L2 Fe
def d_size_c1 : E := (.comp [1, 2] (.t [(.n 1), (.n 2)]) (.e (.var 0)) .none (.bin .mul (.var 2) (.bin .add (.cst (.int 1)) (.call "size" (.cons (.ix (.var 1) (.cst (.int 1))) .nil)))))
def d_size : Fd := ⟨1, 3, (.cons (.ret (.some (.blt .sum (.cons d_size_c1 .nil)))) .nil)⟩
def d_sizes_of_l1 : Cs := (.cons (.aug 1 .mul (.var 4)) (.kill [5] .nil))
def d_sizes_of_l2 : Cs := (.cons (.set 4 (.bin .mul (.bin .add (.cst (.int 1)) (.call "size" (.cons (.ix (.var 2) (.cst (.int 1))) .nil))) (.call "sizes_of" (.cons (.ix (.var 2) (.cst (.int 1))) .nil)))) (.kill [2] (.cons (.for (.n 5) (.rg1 (.var 3)) d_sizes_of_l1) (.kill [3, 4, 5] (.kill [2, 3, 4, 5] .nil)))))
def d_sizes_of : Fd := ⟨1, 6, (.cons (.set 1 (.cst (.int 1))) (.cons (.for (.t [(.n 2), (.n 3)]) (.e (.var 0)) d_sizes_of_l2) (.kill [2, 3] (.cons (.ret (.some (.var 1))) .nil))))⟩
def d_orders_l1 : Cs := (.cons (.aug 2 .mul (.var 3)) (.kill [3] .nil))
def d_orders : Fd := ⟨1, 4, (.cons (.set 1 (.fz (.call "size" (.cons (.var 0) .nil)))) (.cons (.ite (.cmp .gt (.var 1) (.glb "MOST_SIZE" (.int 400))) (.cons (.rse "TooLong" "too many trees") .nil) .nil) (.cons (.set 2 (.cst (.int 1))) (.cons (.for (.n 3) (.rg2 (.cst (.int 2)) (.bin .add (.var 1) (.cst (.int 1)))) d_orders_l1) (.kill [1, 3] (.cons (.ret (.some (.bin .fdiv (.var 2) (.call "sizes_of" (.cons (.var 0) .nil))))) .nil))))))⟩
def d__law_purse : Fd := ⟨2, 5, (.cons (.set 2 (.cst (.int 0))) (.cons (.ite (.cmp .lt (.var 1) (.blt .len (.cons (.var 0) .nil))) (.cons (.set 2 (.ix (.var 0) (.var 1))) .nil) .nil) (.cons (.set 3 (.cst (.int 0))) (.cons (.ite (.or (.cmp .ge (.var 2) (.bin .pow (.cst (.int 10)) (.cst (.int 18)))) (.cmp .lt (.var 2) (.cst (.int 0)))) (.cons (.set 3 (.bin .mod (.blt .abs (.cons (.var 2) .nil)) (.bin .mul (.bin .mul (.bin .mul (.bin .mul (.bin .pow (.cst (.int 10)) (.cst (.int 60))) (.bin .pow (.cst (.int 10)) (.cst (.int 60)))) (.bin .pow (.cst (.int 10)) (.cst (.int 60)))) (.bin .pow (.cst (.int 10)) (.cst (.int 60)))) (.bin .pow (.cst (.int 10)) (.cst (.int 60)))))) .nil) .nil) (.cons (.set 4 (.bin .mul (.bin .add (.bin .mod (.var 2) (.cst (.int 18446744073709551557))) (.cst (.int 1))) (.bin .add (.bin .add (.bin .mul (.bin .mul (.cst (.int 7)) (.var 1)) (.var 1)) (.bin .mul (.cst (.int 2)) (.var 1))) (.cst (.int 3))))) (.cons (.ret (.some (.lst (.cons (.fz (.var 3)) (.cons (.fz (.bin .add (.bin .mod (.bin .mul (.var 4) (.cst (.int 2654435761))) (.cst (.int 18446744073709551557))) (.cst (.int 1)))) .nil))))) .nil))))))⟩
def d__law_take : Fd := ⟨2, 3, (.cons (.ite (.cmp .gt (.ix (.var 0) (.cst (.int 0))) (.cst (.int 0))) (.cons (.set 2 (.bin .mod (.ix (.var 0) (.cst (.int 0))) (.var 1))) (.cons (.setIx (.var 0) (.cst (.int 0)) (.bin .fdiv (.ix (.var 0) (.cst (.int 0))) (.var 1))) (.cons (.ret (.some (.var 2))) .nil))) .nil) (.cons (.setIx (.var 0) (.cst (.int 1)) (.fz (.bin .add (.bin .mod (.bin .add (.bin .mul (.ix (.var 0) (.cst (.int 1))) (.cst (.int 5851302741139))) (.cst (.int 977))) (.cst (.int 18446744073709551557))) (.cst (.int 1))))) (.cons (.ret (.some (.bin .mod (.bin .fdiv (.bin .pow (.ix (.var 0) (.cst (.int 1))) (.cst (.int 4))) (.cst (.int 65537))) (.var 1)))) .nil)))⟩
def d__law_names_c1 : E := (.comp [10] (.n 10) (.rg1 (.var 3)) .none (.fz (.sl (.var 2) .none (.some (.bin .add (.var 10) (.cst (.int 1)))))))
def d__law_names_c2 : E := (.comp [11] (.n 11) (.e (.var 9)) .none (.fz (.bin .add (.bin .add (.sl (.var 2) .none (.some (.var 7))) (.var 11)) (.sl (.var 2) (.some (.bin .add (.var 7) (.cst (.int 1)))) (.some (.var 6))))))
def d__law_names_c3 : E := (.comp [10] (.n 10) (.rg1 (.var 3)) .none (.ix (.var 1) (.bin .mod (.bin .add (.var 8) (.bin .mul (.cst (.int 3)) (.var 10))) (.cst (.int 26)))))
def d__law_names_c4 : E := (.comp [10] (.n 10) (.rg1 (.cst (.int 8))) .none (.ix (.var 1) (.call "_law_take" (.cons (.var 0) (.cons (.cst (.int 26)) .nil)))))
def d__law_names : Fd := ⟨1, 12, (.cons (.set 1 (.cst (.str "abcdefghijklmnopqrstuvwxyz"))) (.cons (.set 2 (.join "" d__law_names_c4)) (.cons (.set 3 (.fz (.bin .add (.cst (.int 1)) (.call "_law_take" (.cons (.var 0) (.cons (.cst (.int 8)) .nil)))))) (.cons (.set 4 (.fz (.call "_law_take" (.cons (.var 0) (.cons (.var 3) .nil))))) (.cons (.ite (.cmp .eq (.call "_law_take" (.cons (.var 0) (.cons (.cst (.int 3)) .nil))) (.cst (.int 0))) (.cons (.set 5 d__law_names_c1) .nil) (.cons (.set 6 (.fz (.bin .add (.cst (.int 1)) (.call "_law_take" (.cons (.var 0) (.cons (.cst (.int 8)) .nil)))))) (.cons (.set 7 (.fz (.call "_law_take" (.cons (.var 0) (.cons (.var 6) .nil))))) (.cons (.set 8 (.fz (.call "_law_take" (.cons (.var 0) (.cons (.cst (.int 26)) .nil))))) (.cons (.set 9 d__law_names_c3) (.cons (.set 5 d__law_names_c2) .nil)))))) (.cons (.ret (.some (.bin .add (.sl (.var 5) (.some (.var 4)) .none) (.sl (.var 5) .none (.some (.var 4)))))) .nil))))))⟩
def d__law_tidy_l1 : Cs := (.cons (.ite (.and (.cmp .ne (.var 1) (.lst .nil)) (.cmp .eq (.ix (.ix (.var 1) (.neg (.cst (.int 1)))) (.cst (.int 0))) (.var 2))) (.cons (.set 3 (.fz (.bin .add (.var 3) (.ix (.met .pop (.var 1) .nil) (.cst (.int 1)))))) .nil) .nil) (.cons (.ex (.met .append (.var 1) (.cons (.tup (.cons (.fz (.var 2)) (.cons (.fz (.var 3)) .nil))) .nil))) (.kill [2, 3] .nil)))
def d__law_tidy : Fd := ⟨1, 4, (.cons (.set 1 (.lst .nil)) (.cons (.for (.t [(.n 2), (.n 3)]) (.e (.blt .sorted (.cons (.var 0) .nil))) d__law_tidy_l1) (.kill [2, 3] (.cons (.ret (.some (.blt .tuple (.cons (.var 1) .nil)))) .nil))))⟩
def d__law_grove : Fd := ⟨6, 15, (.cons (.set 6 (.lst .nil)) (.cons (.set 7 (.lst .nil)) (.cons (.for (.n 8) (.rg1 (.var 2)) (.cons (.set 10 (.call "_law_purse" (.cons (.var 0) (.cons (.bin .add (.var 1) (.var 8)) .nil)))) (.cons (.set 11 (.bin .sub (.call "_law_take" (.cons (.var 10) (.cons (.bin .add (.var 8) (.cst (.int 1))) .nil))) (.cst (.int 1)))) (.cons (.ite (.and (.cmp .ge (.var 11) (.cst (.int 0))) (.cmp .ge (.ix (.var 7) (.var 11)) (.var 5))) (.cons (.set 11 (.neg (.cst (.int 1)))) .nil) .nil) (.cons (.set 12 (.ix (.var 3) (.call "_law_take" (.cons (.var 10) (.cons (.blt .len (.cons (.var 3) .nil)) .nil))))) (.cons (.set 13 (.bin .add (.cst (.int 1)) (.call "_law_take" (.cons (.var 10) (.cons (.ix (.lst (.cons (.cst (.int 1)) (.cons (.cst (.int 1)) (.cons (.cst (.int 3)) (.cons (.var 4) .nil))))) (.call "_law_take" (.cons (.var 10) (.cons (.cst (.int 4)) .nil)))) .nil))))) (.cons (.ex (.met .append (.var 6) (.cons (.tup (.cons (.var 11) (.cons (.var 12) (.cons (.var 13) .nil)))) .nil))) (.cons (.ex (.met .append (.var 7) (.cons (.bin .add (.cst (.int 1)) (.ix (.bin .add (.lst (.cons (.cst (.int 0)) .nil)) (.var 7)) (.bin .add (.var 11) (.cst (.int 1))))) .nil))) .nil)))))))) (.cons (.set 9 (.comp [8] (.n 8) (.rg1 (.bin .add (.var 2) (.cst (.int 1)))) .none (.lst .nil))) (.cons (.for (.n 8) (.rvr (.var 2)) (.cons (.asg (.t [(.n 11), (.n 12), (.n 13)]) (.ix (.var 6) (.var 8))) (.cons (.set 14 (.tup (.cons (.var 12) (.cons (.call "_law_tidy" (.cons (.ix (.var 9) (.var 8)) .nil)) .nil)))) (.cons (.ex (.met .append (.ix (.var 9) (.var 11)) (.cons (.tup (.cons (.var 14) (.cons (.var 13) .nil))) .nil))) .nil)))) (.cons (.ret (.some (.call "_law_tidy" (.cons (.ix (.var 9) (.var 2)) .nil)))) .nil))))))⟩
def d__law_size_l1 : Cs := (.cons (.set 1 (.fz (.bin .add (.var 1) (.bin .mul (.var 3) (.bin .add (.cst (.int 1)) (.call "_law_size" (.cons (.ix (.var 2) (.cst (.int 1))) .nil))))))) (.kill [2, 3] .nil))
def d__law_size : Fd := ⟨1, 4, (.cons (.set 1 (.cst (.int 0))) (.cons (.for (.t [(.n 2), (.n 3)]) (.e (.var 0)) d__law_size_l1) (.kill [2, 3] (.cons (.ret (.some (.var 1))) .nil))))⟩
def d__law_sizes_l1 : Cs := (.cons (.set 1 (.bin .add (.var 1) (.rep (.bin .add (.lst (.cons (.fz (.bin .add (.cst (.int 1)) (.call "_law_size" (.cons (.ix (.var 2) (.cst (.int 1))) .nil)))) .nil)) (.call "_law_sizes" (.cons (.ix (.var 2) (.cst (.int 1))) .nil))) (.var 3)))) (.kill [2, 3] .nil))
def d__law_sizes : Fd := ⟨1, 4, (.cons (.set 1 (.lst .nil)) (.cons (.for (.t [(.n 2), (.n 3)]) (.e (.var 0)) d__law_sizes_l1) (.kill [2, 3] (.cons (.ret (.some (.var 1))) .nil))))⟩
def d__law_refused : Fd := ⟨1, 3, (.cons (.set 1 (.lst .nil)) (.cons (.tryH [] (.cons (.ex (.call "orders" (.cons (.var 0) .nil))) .nil) "FellError" 2 (.cons "TooLong" (.cons (.set 1 (.lst (.cons (.cst (.bl true)) (.cons (.cst (.bl true)) .nil)))) (.cons (.ex (.met .append (.var 1) (.cons (.cst (.bl false)) .nil))) (.cons (.ex (.met .append (.var 1) (.cons (.cst (.bl false)) .nil))) (.cons (.ex (.met .append (.var 1) (.cons (.cst (.bl false)) .nil))) .nil)))) .nil)) (.cons (.ret (.some (.cmp .eq (.var 1) (.lst (.cons (.cst (.bl true)) (.cons (.cst (.bl true)) (.cons (.cst (.bl false)) (.cons (.cst (.bl false)) (.cons (.cst (.bl false)) .nil))))))))) .nil)))⟩
def d__law_right_l1 : Cs := (.cons (.ite (.cmp .gt (.bin .mod (.var 2) (.var 4)) (.cst (.int 0))) (.cons (.ret (.some (.cst (.bl false)))) .nil) .nil) (.cons (.set 2 (.bin .fdiv (.var 2) (.var 4))) (.kill [4] .nil)))
def d__law_right_l2 : Cs := (.cons (.set 2 (.bin .mul (.var 2) (.var 3))) (.kill [3] .nil))
def d__law_right : Fd := ⟨1, 5, (.cons (.set 1 (.fz (.call "_law_size" (.cons (.var 0) .nil)))) (.cons (.ite (.cmp .gt (.var 1) (.cst (.int 400))) (.cons (.ret (.some (.call "_law_refused" (.cons (.var 0) .nil)))) .nil) .nil) (.cons (.set 2 (.fz (.call "orders" (.cons (.var 0) .nil)))) (.cons (.ite (.or (.not (.isi (.var 2) .int)) (.or (.isi (.var 2) .bl) (.cmp .lt (.var 2) (.cst (.int 1))))) (.cons (.ret (.some (.cst (.bl false)))) .nil) .nil) (.cons (.for (.n 3) (.e (.call "_law_sizes" (.cons (.var 0) .nil))) d__law_right_l2) (.kill [3] (.kill [3] (.cons (.for (.n 4) (.rg2 (.cst (.int 1)) (.bin .add (.var 1) (.cst (.int 1)))) d__law_right_l1) (.kill [1, 4] (.cons (.ret (.some (.cmp .eq (.var 2) (.cst (.int 1))))) .nil))))))))))⟩
def d_law_l1 : Cs := (.cons (.ite (.not (.call "_law_right" (.cons (.fz (.call "_law_tidy" (.cons (.fz (.bin .add (.blt .list (.cons (.var 5) .nil)) (.lst (.cons (.tup (.cons (.fz (.var 7)) (.cons (.fz (.var 8)) .nil))) .nil)))) .nil))) .nil))) (.cons (.ret (.some (.cst (.bl false)))) .nil) .nil) (.kill [8] .nil))
def d_law : Fd := ⟨1, 9, (.cons (.set 1 (.call "_law_purse" (.cons (.var 0) (.cons (.cst (.int 0)) .nil)))) (.cons (.set 2 (.fz (.call "_law_names" (.cons (.call "_law_purse" (.cons (.var 0) (.cons (.cst (.int 1)) .nil))) .nil)))) (.cons (.set 3 (.fz (.call "_law_take" (.cons (.var 1) (.cons (.ix (.lst (.cons (.cst (.int 3)) (.cons (.cst (.int 9)) (.cons (.cst (.int 41)) .nil)))) (.call "_law_take" (.cons (.var 1) (.cons (.cst (.int 3)) .nil)))) .nil))))) (.cons (.set 4 (.ix (.lst (.cons (.cst (.int 1)) (.cons (.cst (.int 9)) (.cons (.bin .pow (.cst (.int 10)) (.cst (.int 50))) .nil)))) (.call "_law_take" (.cons (.var 1) (.cons (.cst (.int 3)) .nil))))) (.cons (.set 5 (.fz (.call "_law_grove" (.cons (.var 0) (.cons (.cst (.int 2)) (.cons (.var 3) (.cons (.var 2) (.cons (.var 4) (.cons (.cst (.int 12)) .nil))))))))) (.cons (.ite (.or (.not (.call "_law_right" (.cons (.var 5) .nil))) (.not (.call "_law_right" (.cons (.tup .nil) .nil)))) (.cons (.ret (.some (.cst (.bl false)))) .nil) .nil) (.cons (.set 6 (.bin .sub (.cst (.int 400)) (.call "_law_size" (.cons (.var 5) .nil)))) (.cons (.ite (.cmp .lt (.var 6) (.cst (.int 1))) (.cons (.ret (.some (.cst (.bl true)))) .nil) .nil) (.cons (.set 7 (.tup (.cons (.ix (.var 2) (.cst (.int 0))) (.cons (.tup .nil) .nil)))) (.kill [1, 2, 3, 4] (.cons (.for (.n 8) (.e (.lst (.cons (.fz (.var 6)) (.cons (.fz (.bin .add (.var 6) (.cst (.int 1)))) .nil)))) d_law_l1) (.kill [5, 6, 7, 8] (.cons (.ret (.some (.cst (.bl true)))) .nil)))))))))))))⟩
structure Has (P : Str → Option Fd) : Prop where
  f_size : P "size" = some d_size
  f_sizes_of : P "sizes_of" = some d_sizes_of
  f_orders : P "orders" = some d_orders
  f__law_purse : P "_law_purse" = some d__law_purse
  f__law_take : P "_law_take" = some d__law_take
  f__law_names : P "_law_names" = some d__law_names
  f__law_tidy : P "_law_tidy" = some d__law_tidy
  f__law_grove : P "_law_grove" = some d__law_grove
  f__law_size : P "_law_size" = some d__law_size
  f__law_sizes : P "_law_sizes" = some d__law_sizes
  f__law_refused : P "_law_refused" = some d__law_refused
  f__law_right : P "_law_right" = some d__law_right
  f_law : P "law" = some d_law
def topS (i : Nat) : Stmt := PySem.Challenge.pw_felltimber_k68_orders_by_sizes.main.body.getD i (.Pass ⟨0, 0, 0, 0⟩)
def glb : Glb := ⟨[("size", 1), ("sizes_of", 1), ("orders", 1), ("_law_purse", 2), ("_law_take", 2), ("_law_names", 1), ("_law_tidy", 1), ("_law_grove", 6), ("_law_size", 1), ("_law_sizes", 1), ("_law_refused", 1), ("_law_right", 1), ("law", 1)], [("MOST_SIZE", (.int 400))], [("TooLong", ["TooLong", "FellError", "ValueError"])], ["FellError", "TooLong", "ValueError", "Endless", "NoBook", "NoDrop", "NoFall", "NoGrove", "NoKind", "NoLadder", "NoName", "NoNumber", "NoPlace", "NoReach", "NoRest", "NoRise", "NoRow", "NoRule", "NoWorths", "NotEndless", "TooGreat"]⟩
def e_size : Ent := ⟨"size", topS 22, ["grove", "tree", "many"], ["grove"], d_size⟩
def e_sizes_of : Ent := ⟨"sizes_of", topS 25, ["grove", "found", "tree", "many", "here", "turn"], ["grove"], d_sizes_of⟩
def e_orders : Ent := ⟨"orders", topS 26, ["grove", "whole", "found", "k"], ["grove"], d_orders⟩
def e__law_purse : Ent := ⟨"_law_purse", topS 28, ["_law_script", "_law_k", "_law_cell", "_law_digits", "_law_begin"], ["_law_script", "_law_k"], d__law_purse⟩
def e__law_take : Ent := ⟨"_law_take", topS 29, ["_law_purse_here", "_law_many", "_law_digit"], ["_law_purse_here", "_law_many"], d__law_take⟩
def e__law_names : Ent := ⟨"_law_names", topS 30, ["_law_purse_here", "_law_letters", "_law_base", "_law_many", "_law_turn", "_law_found", "_law_long", "_law_at", "_law_first", "_law_some", "_law_k", "_law_sign"], ["_law_purse_here"], d__law_names⟩
def e__law_tidy : Ent := ⟨"_law_tidy", topS 31, ["_law_pairs", "_law_found", "_law_tree", "_law_many"], ["_law_pairs"], d__law_tidy⟩
def e__law_grove : Ent := ⟨"_law_grove", topS 32, ["_law_script", "_law_first", "_law_many", "_law_names_here", "_law_great", "_law_low", "_law_rows", "_law_deep", "_law_k", "_law_held", "_law_purse_here", "_law_holder", "_law_kind", "_law_count", "_law_tree"], ["_law_script", "_law_first", "_law_many", "_law_names_here", "_law_great", "_law_low"], d__law_grove⟩
def e__law_size : Ent := ⟨"_law_size", topS 33, ["_law_grove_here", "_law_found", "_law_tree", "_law_many"], ["_law_grove_here"], d__law_size⟩
def e__law_sizes : Ent := ⟨"_law_sizes", topS 34, ["_law_grove_here", "_law_found", "_law_tree", "_law_many"], ["_law_grove_here"], d__law_sizes⟩
def e__law_refused : Ent := ⟨"_law_refused", topS 35, ["_law_grove_here", "_law_seen", "error"], ["_law_grove_here"], d__law_refused⟩
def e__law_right : Ent := ⟨"_law_right", topS 36, ["_law_grove_here", "_law_many", "_law_found", "_law_number", "_law_k"], ["_law_grove_here"], d__law_right⟩
def e_law : Ent := ⟨"law", topS 37, ["_law_script", "_law_head", "_law_names_here", "_law_many", "_law_great", "_law_grove_here", "_law_lack", "_law_tree", "_law_much"], ["_law_script"], d_law⟩
def ents : List Ent := [e_size, e_sizes_of, e_orders, e__law_purse, e__law_take, e__law_names, e__law_tidy, e__law_grove, e__law_size, e__law_sizes, e__law_refused, e__law_right, e_law]
theorem ents_ok : ents.all (Ent.ok glb) = true := by decide +kernel
theorem ents_nd : (ents.map (·.f)).Nodup := by decide +kernel
theorem glb_ok : ∀ p ∈ glb.fns, ∃ e ∈ ents, p = (e.f, e.d.np) := by
  have h : (glb.fns.all fun p => ents.any fun e => p.1 == e.f && p.2 == e.d.np) = true := by decide +kernel
  intro p hp
  obtain ⟨e, he, h⟩ := List.any_eq_true.mp (List.all_eq_true.mp h p hp)
  simp only [Bool.and_eq_true] at h
  exact ⟨e, he, by rw [← eq_of_beq h.1, ← eq_of_beq h.2]⟩
theorem has : Has (tab ents) := ⟨tab_mem ents_nd (List.mem_of_getElem? (i := 0) rfl), tab_mem ents_nd (List.mem_of_getElem? (i := 1) rfl), tab_mem ents_nd (List.mem_of_getElem? (i := 2) rfl), tab_mem ents_nd (List.mem_of_getElem? (i := 3) rfl), tab_mem ents_nd (List.mem_of_getElem? (i := 4) rfl), tab_mem ents_nd (List.mem_of_getElem? (i := 5) rfl), tab_mem ents_nd (List.mem_of_getElem? (i := 6) rfl), tab_mem ents_nd (List.mem_of_getElem? (i := 7) rfl), tab_mem ents_nd (List.mem_of_getElem? (i := 8) rfl), tab_mem ents_nd (List.mem_of_getElem? (i := 9) rfl), tab_mem ents_nd (List.mem_of_getElem? (i := 10) rfl), tab_mem ents_nd (List.mem_of_getElem? (i := 11) rfl), tab_mem ents_nd (List.mem_of_getElem? (i := 12) rfl)⟩
theorem okP : Ok2 (tab ents) prG := okG (by decide +kernel) has.f__law_purse has.f__law_take has.f__law_tidy has.f__law_grove
-- by slots
open PySem.W PySem.SeqAt PyProof.Rows
variable {P : Str → Option Fd}
/-! ### sizes, by the law -/
theorem lsize2 (h : Has P) (k : Nat) {B : Int} (hB : B < 2 ^ 220) : ∀ (d : Nat) (g : Gro) (S : Sto), CB B g → g.dep ≤ d → run2 P prG (k + d + 1) "_law_size" [g.v] S = .ok (.v (.int g.cnt)) S := by
  intro d
  induction d with
  | zero =>
    intro g S w hd
    have e : g = .nil := by
      cases g with
      | nil => rfl
      | cons k s n r => simp [Gro.dep] at hd
    subst e
    rw [run2_ok _ (prG_no _ _ (by decide)) h.f__law_size _ _ rfl (by simp)]
    simp [d__law_size, List.replicate, Gro.v, Gro.enc, forL, Gro.cnt, dmy]
  | succ d ih =>
    intro g S w hd
    let T := run2 P prG (k + d + 1)
    let D4 : Sto := [dmy, dmy, dmy, dmy]
    have fo : ∀ (r : Gro) (c : Int), (∀ p ∈ rowsG r, p ∈ rowsG g) → forL (evB2 1 T d__law_size_l1) (.t [(.n 2), (.n 3)]) [] r.enc [some g.v, some (.int c), none, none] D4 = .ok .nx [some g.v, some (.int (c + r.cnt)), none, none] D4 := by
      intro r
      induction r with
      | nil => intro c _; simp [Gro.enc, forL, Gro.cnt]
      | cons kd s n r _ ihr =>
        intro c hm
        obtain ⟨h1, h2, h3, h4⟩ := w.row (hm ((kd, s), n) (by simp [rowsG]))
        simp only at h1 h2 h3 h4
        have rc := fun S => ih s S h1 (by omega)
        simp only [Gro.v] at rc
        obtain ⟨l1, l2⟩ := h1.lt hB
        have mu := fun S => mul_2 S n (1 + s.cnt) 220 4700 (by omega) (by omega) (by omega) l2 (by omega)
        have nx := ihr (c + n * (1 + s.cnt)) fun p hp => hm p (by simp [rowsG, hp])
        have e1 : asgT (.t [(.n 2), (.n 3)]) (.tup [.tup [.str kd, .tup s.enc], .int n]) [some g.v, some (.int c), none, none] = some [some g.v, some (.int c), some (.tup [.str kd, .tup s.enc]), some (.int n)] := rfl
        have bd : evB2 1 T d__law_size_l1 [some g.v, some (.int c), some (.tup [.str kd, .tup s.enc]), some (.int n)] D4 = .ok .nx [some g.v, some (.int (c + n * (1 + s.cnt))), none, none] D4 := by
          simp [d__law_size_l1, T, D4, rc, mu]
        simp only [Gro.enc, forL, guardS_nil', e1, bd, nx, Gro.cnt]
        congr 4
        simp
        omega
    have f0 := fo g 0 fun p hp => hp
    rw [show k + (d + 1) + 1 = (k + d + 1) + 1 by omega, run2_ok _ (prG_no _ _ (by decide)) h.f__law_size _ _ rfl (by simp)]
    simp only [D4, T] at f0
    simp [d__law_size, List.replicate, Gro.v, dmy] at f0 ⊢
    simp [f0]
/-- all sizes -/
def szl : Gro → List Nat
  | .nil => []
  | .cons _ s n r => (List.replicate n.toNat ((1 + s.cnt.toNat) :: szl s)).flatten ++ szl r
def prd (l : List Nat) : Nat := l.foldr (· * ·) 1
theorem prd_app : ∀ a b : List Nat, prd (a ++ b) = prd a * prd b
  | [], b => by simp [prd]
  | x :: a, b => by
    have := prd_app a b
    simp only [prd, List.cons_append, List.foldr_cons] at this ⊢
    rw [this, Nat.mul_assoc]
theorem prd_rep (l : List Nat) : ∀ n : Nat, prd (List.replicate n l).flatten = prd l ^ n
  | 0 => by simp [prd]
  | n + 1 => by rw [List.replicate_succ, List.flatten_cons, prd_app, prd_rep l n, Nat.pow_succ, Nat.mul_comm]
theorem prd_szl : ∀ g : Gro, prd (szl g) = hk g
  | .nil => rfl
  | .cons k s n r => by
    rw [szl, prd_app, prd_rep, prd_szl r, hk]
    congr 2
    have := prd_szl s
    simp only [prd, List.foldr_cons] at this ⊢
    rw [this]
theorem len_rep {α : Type} (l : List α) : ∀ n : Nat, (List.replicate n l).flatten.length = n * l.length
  | 0 => by simp
  | n + 1 => by rw [List.replicate_succ, List.flatten_cons, List.length_append, len_rep l n, Nat.succ_mul]; omega
theorem szl_len : ∀ {g : Gro}, g.pos → ((szl g).length : Int) = g.cnt
  | .nil, _ => rfl
  | .cons k s n r, h => by
    have h1 := szl_len h.2.1
    have h2 := szl_len h.2.2
    have hn := h.1
    simp only [szl, List.length_append, len_rep, List.length_cons, Gro.cnt, Int.natCast_add, Int.natCast_mul]
    rw [h1, h2, Int.toNat_of_nonneg (by omega)]
    simp
    rw [Int.add_comm s.cnt]
theorem szl_pos : ∀ (g : Gro), ∀ x ∈ szl g, 1 ≤ x
  | .nil, x, h => by simp [szl] at h
  | .cons k s n r, x, h => by
    rw [szl] at h
    rcases List.mem_append.mp h with h | h
    · obtain ⟨l, hl, hx⟩ := List.mem_flatten.mp h
      rw [List.eq_of_mem_replicate hl] at hx
      rcases List.mem_cons.mp hx with rfl | hx
      · omega
      · exact szl_pos s x hx
    · exact szl_pos r x h
def nv (n : Nat) : Val := .int (n : Int)
theorem lsizes2 (h : Has P) (k : Nat) {B : Int} (hB : B < 2 ^ 220) : ∀ (d : Nat) (g : Gro) (S : Sto), CB B g → g.pos → g.cnt ≤ 400 → g.dep ≤ d → run2 P prG (k + d + 20) "_law_sizes" [g.v] S = .ok (.t (.lst ((szl g).map nv))) S := by
  intro d
  induction d with
  | zero =>
    intro g S w _ _ hd
    have e : g = .nil := by
      cases g with
      | nil => rfl
      | cons k s n r => simp [Gro.dep] at hd
    subst e
    rw [show k + 0 + 20 = (k + 19) + 1 by omega, run2_ok _ (prG_no _ _ (by decide)) h.f__law_sizes _ _ rfl (by simp)]
    simp [d__law_sizes, List.replicate, Gro.v, Gro.enc, forL, szl, dmy]
  | succ d ih =>
    intro g S w hp hc hd
    let T := run2 P prG (k + d + 20)
    let D4 : List Nat → Sto := fun l => [dmy, .lst (l.map nv), dmy, dmy]
    have cr := cnt_row hp
    have fo : ∀ (r : Gro) (l : List Nat), (∀ p ∈ rowsG r, p ∈ rowsG g) → r.pos → (l.length : Int) + r.cnt ≤ 400 → forL (evB2 1 T d__law_sizes_l1) (.t [(.n 2), (.n 3)]) [] r.enc [some g.v, some (.ref 1), none, none] (D4 l) = .ok .nx [some g.v, some (.ref 1), none, none] (D4 (l ++ szl r)) := by
      intro r
      induction r with
      | nil => intro l _ _ _; simp [Gro.enc, forL, szl]
      | cons kd s n r _ ihr =>
        intro l hm hpr hlc
        obtain ⟨h1, h2, h3, h4⟩ := w.row (hm ((kd, s), n) (by simp [rowsG]))
        have c1 := cr ((kd, s), n) (hm ((kd, s), n) (by simp [rowsG]))
        simp only at h1 h2 h3 h4 c1
        have sn := cnt_nn hpr.2.1
        have rn := cnt_nn hpr.2.2
        obtain ⟨s1, s2⟩ := row_small h2 sn (by omega)
        have ls := fun S => lsize2 h (k + 1) hB (d + 18) s S h1 (by omega)
        rw [show k + 1 + (d + 18) + 1 = k + d + 20 by omega] at ls
        have rc := fun S => ih s S h1 hpr.2.1 (by omega) (by omega)
        simp only [Gro.v] at rc ls
        have sl := szl_len hpr.2.1
        have rl := szl_len hpr.2.2
        have gl := szl_len (g := .cons kd s n r) hpr
        simp only [Gro.cnt] at hlc gl
        have ll : (List.replicate n.toNat ((1 + s.cnt.toNat) :: szl s)).flatten.length = n.toNat * ((szl s).length + 1) := by rw [len_rep]; simp
        have lz : ((List.replicate n.toNat ((1 + s.cnt.toNat) :: szl s)).flatten.length : Int) + (szl r).length = n * (1 + s.cnt) + r.cnt := by
          rw [← gl, szl, List.length_append]
          omega
        have nx := ihr (l ++ (List.replicate n.toNat ((1 + s.cnt.toNat) :: szl s)).flatten) (fun p hp => hm p (by simp [rowsG, hp])) hpr.2.2 (by rw [List.length_append]; omega)
        have e1 : asgT (.t [(.n 2), (.n 3)]) (.tup [.tup [.str kd, .tup s.enc], .int n]) [some g.v, some (.ref 1), none, none] = some [some g.v, some (.ref 1), some (.tup [.str kd, .tup s.enc]), some (.int n)] := rfl
        have a1 : ∀ S, binR S .add (.t (.lst [.int (1 + s.cnt)])) (.t (.lst ((szl s).map nv))) = some (.t (.lst (((1 + s.cnt.toNat) :: szl s).map nv))) := fun S => by
          simp only [binR, addR, lstW]
          rw [if_pos (le_line (by simp; omega))]
          simp [nv]
          omega
        have r1 : ∀ S, repR S (.t (.lst (((1 + s.cnt.toNat) :: szl s).map nv))) (.v (.int n)) = some (.t (.lst (((List.replicate n.toNat ((1 + s.cnt.toNat) :: szl s)).flatten).map nv))) := fun S => by
          simp only [repR, lstW]
          rw [if_pos ⟨by omega, by omega, le_line (by rw [List.length_map, List.length_cons, Nat.mul_comm, ← ll]; omega)⟩]
          rw [List.map_flatten, List.map_replicate]
        have a2 : binR (D4 l) .add (.v (.ref 1)) (.t (.lst (((List.replicate n.toNat ((1 + s.cnt.toNat) :: szl s)).flatten).map nv))) = some (.t (.lst ((l ++ (List.replicate n.toNat ((1 + s.cnt.toNat) :: szl s)).flatten).map nv))) := by
          have g1 : (D4 l)[1]? = some (.lst (l.map nv)) := rfl
          simp only [binR, addR, lstW, g1]
          rw [if_pos (le_line (by rw [List.length_map, List.length_map]; omega)), List.map_append]
        have bd : evB2 1 T d__law_sizes_l1 [some g.v, some (.ref 1), some (.tup [.str kd, .tup s.enc]), some (.int n)] (D4 l) = .ok .nx [some g.v, some (.ref 1), none, none] (D4 (l ++ (List.replicate n.toNat ((1 + s.cnt.toNat) :: szl s)).flatten)) := by
          generalize (List.replicate n.toNat ((1 + s.cnt.toNat) :: szl s)).flatten = zs at r1 a2
          generalize ((1 + s.cnt.toNat) :: szl s).map nv = ys at a1 r1
          simp only [D4] at a2
          simp [d__law_sizes_l1, T, D4, rc, ls, a1, r1, a2]
        simp only [Gro.enc, forL, guardS_nil', e1, bd, nx, szl]
        simp
    have f0 := fo g [] (fun p hp => hp) hp (by simpa using hc)
    rw [show k + (d + 1) + 20 = (k + d + 20) + 1 by omega, run2_ok _ (prG_no _ _ (by decide)) h.f__law_sizes _ _ rfl (by simp)]
    simp only [D4, T] at f0
    simp [d__law_sizes, List.replicate, Gro.v, dmy] at f0 ⊢
    simp [f0]
/-! ### refused, or right -/
theorem refused2 (h : Has P) (k : Nat) {B : Int} (hB : B < 2 ^ 220) {g : Gro} (w : CB B g) (hc : 400 < g.cnt) (S : Sto) : run2 P prG (k + 41) "_law_refused" [g.v] S = .ok (.v (.bl true)) S := by
  have tr := fun S => orders_no (P := P) (pr := prG) k (fun _ => prG_no _ _ (by decide)) h.f_size (fun _ => prG_no _ _ (by decide)) h.f_orders hB w hc S
  rw [run2_ok (k + 40) (prG_no _ _ (by decide)) h.f__law_refused _ _ rfl (by simp)]
  have a1 : ∀ bs : List Val, bs.length ≤ 100 → metR .append 1 [.bl false] [dmy, .lst bs, dmy] = some (.v .non, [dmy, .lst (bs ++ [.bl false]), dmy]) := by
    intro bs hb
    rw [met_append (S := [dmy, .lst bs, dmy]) (l := 1) (xs := bs) rfl (by omega)]
    simp
  simp [d__law_refused, List.replicate, tr, cutX, a1, dmy] at a1 ⊢
  simp [a1, eqR, datR, Val.belL, Val.bel, Val.pdL, Val.pd, SeqAt.shaped, PyData.eqv, PyData.eqvAll]
  trivial
def riE (g : Gro) (c f : Nat) (x y : Option Val) : Fe.Env := [some g.v, some (.int (c : Int)), some (.int (f : Int)), x, y]
def D5 : Sto := [dmy, dmy, dmy, dmy, dmy]
theorem prd_pos : ∀ l : List Nat, (∀ x ∈ l, 1 ≤ x) → 1 ≤ prd l
  | [], _ => by simp [prd]
  | x :: l, h => by
    have := prd_pos l fun y hy => h y (by simp [hy])
    have := h x (by simp)
    simp only [prd, List.foldr_cons] at *
    exact Nat.mul_pos (by omega) (by omega)
theorem ri_step {M : Nat} (G : Big M) (T : Fns) (g : Gro) (c f x : Nat) (hf : f < M) (hx : x < M) : evB2 1 T d__law_right_l2 (riE g c f (some (nv x)) none) D5 = .ok .nx (riE g c (f * x) none none) D5 := by
  have mu := mul_nR G D5 (a := f) (b := x) hf hx
  have e0 : d__law_right_l2 = .cons (.set 2 (.bin .mul (.var 2) (.var 3))) (.kill [3] .nil) := rfl
  rw [e0, evB2_cons, evS2_set, evE_bin]
  simp only [riE, nv, evE_var, List.getElem?_cons_succ, List.getElem?_cons_zero, bind_ok]
  rw [mu]
  generalize ((f * x : Nat) : Int) = y
  simp only [of_some, st_ok]
  rw [setK_v _ _ _ _ _ rfl]
  simp only [sbind_nx, evB2_kill, evB2_nil, List.set_cons_succ, List.set_cons_zero]
  simp [wipeE, D5]
theorem prd_cons (x : Nat) (l : List Nat) : prd (x :: l) = x * prd l := rfl
theorem ri_fold : ∀ (l : List Nat) (f : Nat), l.foldl (fun f x => f * x) f = f * prd l
  | [], f => by simp [prd]
  | x :: l, f => by rw [List.foldl_cons, ri_fold l, prd_cons, Nat.mul_assoc]
theorem ri_l2 {M : Nat} (G : Big M) (T : Fns) (g : Gro) (c : Nat) (l : List Nat) (f : Nat) (hl : ∀ x ∈ l, 1 ≤ x) (hf : 1 ≤ f) (hM : f * prd l < M) : forL (evB2 1 T d__law_right_l2) (.n 3) [] (l.map nv) (riE g c f none none) D5 = .ok .nx (riE g c (f * prd l) none none) D5 := by
  have key := forL_fold (σ := Nat) (α := Nat) (evB2 1 T d__law_right_l2) (.n 3) nv (fun f => (riE g c f none none, D5)) (fun f x => f * x) (fun f r => 1 ≤ f ∧ (∀ x ∈ r, 1 ≤ x) ∧ f * prd r < M) (by
    rintro f x r ⟨i1, i2, i3⟩
    have hx := i2 x (List.mem_cons_self ..)
    have hr : ∀ y ∈ r, 1 ≤ y := fun y hy => i2 y (List.mem_cons_of_mem _ hy)
    have hp := prd_pos r hr
    rw [prd_cons, ← Nat.mul_assoc] at i3
    have q0 : f * x * 1 ≤ f * x * prd r := Nat.mul_le_mul_left _ hp
    have q1 : f * 1 ≤ f * x := Nat.mul_le_mul_left _ hx
    have q2 : 1 * x ≤ f * x := Nat.mul_le_mul_right _ i1
    rw [Nat.mul_one] at q0 q1
    rw [Nat.one_mul] at q2
    have l0 := Nat.lt_of_le_of_lt q0 i3
    exact ⟨riE g c f (some (nv x)) none, rfl, ri_step G T g c f x (Nat.lt_of_le_of_lt q1 l0) (Nat.lt_of_le_of_lt q2 l0), Nat.le_trans i1 q1, hr, i3⟩) l f ⟨hf, hl, hM⟩
  rw [ri_fold] at key
  exact key
theorem fct_cut {c j f : Nat} (hj : j < c) (h : f * fct j = fct c) : ∃ r, f = (j + 1) * r ∧ r * fct (j + 1) = fct c := by
  have d : fct (j + 1) ∣ fct c := by
    have := fct_dvd c (j + 1) (c - (j + 1)) (by omega)
    rw [show j + 1 + (c - (j + 1)) = c by omega] at this
    exact Nat.dvd_trans (Nat.dvd_mul_right _ _) this
  obtain ⟨r, hr⟩ := d
  refine ⟨r, ?_, by rw [hr, Nat.mul_comm]⟩
  have e : f * fct j = ((j + 1) * r) * fct j := by
    rw [h, hr]
    show (j + 1) * fct j * r = _
    rw [Nat.mul_assoc, Nat.mul_comm (fct j), ← Nat.mul_assoc]
  exact Nat.eq_of_mul_eq_mul_right (fct_pos j) e
theorem ri_l1 (T : Fns) (g : Gro) (c : Nat) (hc : c ≤ 400) : forL (evB2 1 T d__law_right_l1) (.n 4) [] (rngL 1 c) (riE g c (fct c) none none) D5 = .ok .nx (riE g c 1 none none) D5 := by
  obtain ⟨env', S', h1, ⟨f, h2, h3, h4⟩⟩ := for_rng (evB2 1 T d__law_right_l1) (.n 4) 1 (fun i env S => ∃ f : Nat, env = riE g c f none none ∧ S = D5 ∧ f * fct i = fct c) c (by
    rintro i env S hi ⟨f, rfl, rfl, hf⟩
    obtain ⟨r, q1, q2⟩ := fct_cut hi hf
    refine ⟨riE g c f none (some (.int (1 + (i : Int)))), rfl, riE g c r none none, D5, ?_, r, rfl, rfl, q2⟩
    have fe : (f : Int) = (1 + (i : Int)) * (r : Int) := by rw [q1]; simp [Int.add_comm]
    have md : ∀ S, binR S .mod (.v (.int (f : Int))) (.v (.int (1 + (i : Int)))) = some (.v (.int 0)) := fun S => by
      have ne : (1 + (i : Int)) ≠ 0 := by omega
      simp only [binR, ne, ne_eq, not_false_eq_true, if_true]
      rw [Int.fmod_eq_emod_of_nonneg _ (by omega), fe, Int.mul_emod_right]
    have dv : ∀ S, binR S .fdiv (.v (.int (f : Int))) (.v (.int (1 + (i : Int)))) = some (.v (.int (r : Int))) := fun S => by
      have d : divOk (1 + (i : Int)) = true := by
        simp only [divOk, Bool.or_eq_true, Bool.and_eq_true, decide_eq_true_eq]
        left
        omega
      simp only [binR, d, if_true]
      rw [Int.fdiv_eq_ediv_of_nonneg _ (by omega), fe, Int.mul_ediv_cancel_left _ (by omega)]
    simp only [riE, D5]
    simp [d__law_right_l1, md, dv]) c 0 (riE g c (fct c) none none) D5 (by omega) ⟨fct c, rfl, rfl, by simp [fct]⟩
  subst h2 h3
  have e : rngL 1 c = (List.range' 0 c).map fun j : Nat => Val.int (1 + (j : Int)) := by
    rw [← List.range_eq_range']
    rfl
  have f1 : f = 1 := by
    have : f * fct c = 1 * fct c := by simpa using h4
    exact Nat.eq_of_mul_eq_mul_right (fct_pos c) this
  subst f1
  rw [e, h1]
theorem right2 (h : Has P) (k : Nat) {B : Int} (hB : B < 2 ^ 220) {g : Gro} (w : CB B g) (hp : g.pos) (S : Sto) : run2 P prG (k + 60) "_law_right" [g.v] S = .ok (.v (.bl true)) S := by
  obtain ⟨M, G⟩ := ex_big
  have ls := fun S => lsize2 h (k + 40) hB 18 g S w w.dep
  have c0 := cnt_nn hp
  rw [run2_ok (k + 59) (prG_no _ _ (by decide)) h.f__law_right _ _ rfl (by simp)]
  by_cases hc : g.cnt ≤ 400
  · have od := fun S => orders_ok (P := P) (pr := prG) (k + 19) G (fun _ => prG_no _ _ (by decide)) h.f_size (fun _ => prG_no _ _ (by decide)) h.f_sizes_of (fun _ => prG_no _ _ (by decide)) h.f_orders hB w hp hc S
    have lz := fun S => lsizes2 h (k + 21) hB 18 g S w hp hc w.dep
    have ec : g.cnt = (g.cnt.toNat : Int) := by omega
    have dv := hk_dvd hp
    have hkp := hk_pos g
    have zp := szl_pos g
    have pz := prd_szl g
    generalize g.cnt.toNat = c at *
    rw [ec] at ls
    have hc' : c ≤ 400 := by omega
    have e2 : fct c / hk g * prd (szl g) = fct c := by rw [pz]; exact Nat.div_mul_cancel dv
    have f1 : 1 ≤ fct c / hk g := Nat.div_pos (Nat.le_of_dvd (fct_pos _) dv) hkp
    have l2 := ri_l2 G (run2 P prG (k + 59)) g c (szl g) (fct c / hk g) zp f1 (by rw [e2]; exact G.fc hc')
    rw [e2] at l2
    have l1 := ri_l1 (run2 P prG (k + 59)) g c hc'
    generalize fct c / hk g = f at *
    generalize fct c = fc at *
    have rg : rangeR [.v (.int 1), .v (.int ((c : Int) + 1))] = some ⟨rngL 1 c, []⟩ := by
      have h1 : rngOk 1 = true := by decide
      have h2 : rngOk ((c : Int) + 1) = true := by
        simp only [rngOk, Bool.and_eq_true, decide_eq_true_eq]
        omega
      have h3 : ((c : Int) + 1 - 1).toNat = c := by omega
      simp only [rangeR, h1, h2, and_self, if_true, h3]
    have n4 : ¬ ((400 : Int) < (c : Int)) := by omega
    have n1 : ¬ ((f : Int) < 1) := by omega
    simp only [riE, D5, Gro.v] at l1 l2
    simp only [Gro.v] at ls od lz
    simp [d__law_right, List.replicate, Gro.v, ls, n4, od, isiR, clsOf, isiB, n1, lz]
    rw [l2]
    simp [rg]
    rw [l1]
    simp [dmy]
  · have rf := fun S => refused2 h (k + 18) hB w (by omega) S
    have n4 : (400 : Int) < g.cnt := by omega
    simp only [Gro.v] at ls rf
    simp [d__law_right, List.replicate, Gro.v, ls, n4, rf, dmy]
/-! ### one tree more -/
def rct : List GRow → Int
  | [] => 0
  | p :: r => p.2 * (1 + p.1.2.cnt) + rct r
theorem rct_app : ∀ a b : List GRow, rct (a ++ b) = rct a + rct b
  | [], b => by simp [rct]
  | x :: a, b => by simp only [List.cons_append, rct, rct_app a b]; omega
theorem rct_perm {a b : List GRow} (h : a.Perm b) : rct a = rct b := by
  induction h with
  | nil => rfl
  | cons x _ ih => simp only [rct, ih]
  | swap x y l => simp only [rct]; omega
  | trans _ _ i1 i2 => exact i1.trans i2
theorem cnt_toG : ∀ rs : List GRow, (toG rs).cnt = rct rs
  | [] => rfl
  | p :: r => by simp only [toG, Gro.cnt, rct, cnt_toG r]
theorem rct_rows (g : Gro) : rct (rowsG g) = g.cnt := by rw [← cnt_toG, toG_rows]
theorem mrg_ct (acc : List GRow) (x : GRow) : rct (mrg acc x) = rct acc + x.2 * (1 + x.1.2.cnt) := by
  rcases List.eq_nil_or_concat acc with rfl | ⟨a, y, rfl⟩
  · simp [mrg_nil, rct]
  · rw [List.concat_eq_append, mrg_end]
    split
    · rename_i e
      simp only [rct_app, rct, e, Int.add_mul]
      omega
    · simp only [rct_app, rct]
      omega
theorem fold_ct : ∀ (xs acc : List GRow), rct (xs.foldl mrg acc) = rct acc + rct xs
  | [], acc => by simp [rct]
  | x :: xs, acc => by rw [List.foldl_cons, fold_ct xs, mrg_ct, rct]; omega
theorem tdy_ct (rs : List GRow) : rct (tdy rs) = rct rs := by
  rw [tdy, fold_ct, rct_perm (gsrt_perm rs)]
  simp [rct]
theorem bnd_mono {B B' : Int} (h : B ≤ B') : ∀ {g : Gro}, g.bnd B → g.bnd B'
  | .nil, _ => trivial
  | .cons k s n r, w => ⟨w.1, by have := w.2.1; omega, bnd_mono h w.2.2.1, bnd_mono h w.2.2.2⟩
theorem row_nm : ∀ {g : Gro}, g.gs → ∀ p ∈ rowsG g, GS p.1.1 20 ∧ p.1.2.gs
  | .nil, _ => by simp [rowsG]
  | .cons k s n r, h => by
    intro p hp
    rcases List.mem_cons.mp hp with rfl | hp
    · exact ⟨h.1, h.2.1⟩
    · exact row_nm h.2.2 p hp
theorem more_ok {B : Int} {g : Gro} (hB0 : 0 ≤ B) (hB : B + 500 < 2 ^ 219) (w : CB B g) {nm : Str} {m : Int} (hm : 1 ≤ m) (hm2 : m ≤ 402) (hz : g.siz ≤ 9000) (hd : g.dep ≤ 12) : CB (B + 500) (toG (tdy (rowsG g ++ [((nm, Gro.nil), m)]))) ∧ (toG (tdy (rowsG g ++ [((nm, Gro.nil), m)]))).cnt = g.cnt + m := by
  have mem : ∀ p ∈ rowsG g ++ [((nm, Gro.nil), m)], 1 ≤ p.2 ∧ p.1.2.sm ≤ B + 500 ∧ p.1.2.bnd (B + 500) ∧ p.1.2.dep + 1 ≤ 18 := by
    intro p hp
    rcases List.mem_append.mp hp with hp | hp
    · obtain ⟨a, b, c, d⟩ := bnd_row w.bnd p hp
      have := rows_dep g p hp
      exact ⟨a, by omega, bnd_mono (by omega) d, by omega⟩
    · simp at hp
      subst hp
      exact ⟨hm, by simp [Gro.sm]; omega, trivial, by simp [Gro.dep]⟩
  have ps : ∀ p ∈ tdy (rowsG g ++ [((nm, Gro.nil), m)]), 1 ≤ p.2 := tdy_pos fun p hp => (mem p hp).1
  refine ⟨⟨bnd_toG _ _ fun p hp => ?_, ?_, dep_toG _ _ fun p hp => ?_, ?_⟩, ?_⟩
  · obtain ⟨x, hx, e⟩ := tdy_mem hp
    obtain ⟨_, b, c, _⟩ := mem x hx
    rw [e]
    exact ⟨ps p hp, b, c⟩
  · rw [sm_toG, tdy_sm, rsm_app, ← sm_toG, toG_rows]
    have := w.sm
    simp [rsm]
    omega
  · obtain ⟨x, hx, e⟩ := tdy_mem hp
    rw [e]
    exact (mem x hx).2.2.2
  · rw [siz_toG]
    refine Nat.le_trans (tdy_grz _) ?_
    rw [grz_app, ← siz_toG, toG_rows]
    simp [grz, Gro.siz]
    omega
  · rw [cnt_toG, tdy_ct, rct_app, rct_rows]
    simp [rct, Gro.cnt]
theorem main (h : Has P) (ns : List Int) (hl : ns.length ≤ 63) : ∃ S', run2 P prG 200 "law" [.fls (ns.map Val.int)] [] = .ok (.v (.bl true)) S' := by
  let T := run2 P prG 199
  have np : ∀ k f, (f == ("_law_grove" : Str)) = false → prG k f = none := prG_no
  have pu := fun S i hi => purse2 (P := P) (pr := prG) 198 S (np _ _ (by decide)) h.f__law_purse ns i hi
  have tk := fun S => @take2 P prG 198 S (np _ _ (by decide)) h.f__law_take
  have pu0 := fun S => pu S 0 (by omega)
  have pu1 := fun S => pu S 1 (by omega)
  simp at pu0 pu1
  let D9 : Sto := [dmy, dmy, dmy, dmy, dmy, dmy, dmy, dmy, dmy]
  obtain ⟨nms, n1, n2, n3, n4⟩ := names_t (P := P) (pr := prG) 197 [dmy, (pz ns 0).ob, dmy, dmy, dmy, dmy, dmy, dmy, dmy] (np _ _ (by decide)) (np _ _ (by decide)) h.f__law_take h.f__law_names (by simp) (pz ns 1)
  let p0 := pz ns 0
  have d0 := p0.dr_lt (m := 3) (by decide)
  obtain ⟨mm, m1, m2, m3⟩ : ∃ mm : Nat, 0 < mm ∧ mm ≤ 41 ∧ atI [Val.int 3, .int 9, .int 41] (p0.dr 3) = some (.int (mm : Int)) := by
    have : p0.dr 3 = 0 ∨ p0.dr 3 = 1 ∨ p0.dr 3 = 2 := by omega
    rcases this with e | e | e <;> rw [e]
    · exact ⟨3, by omega, by omega, rfl⟩
    · exact ⟨9, by omega, by omega, rfl⟩
    · exact ⟨41, by omega, by omega, rfl⟩
  let p1 := p0.nx 3
  have d1 := p1.dr_lt (m := mm) (by omega)
  obtain ⟨many, hm⟩ : ∃ m : Nat, p1.dr mm = m := ⟨(p1.dr mm).toNat, by omega⟩
  have hm' : many ≤ 41 := by omega
  let p2 := p1.nx mm
  have d2 := p2.dr_lt (m := 3) (by decide)
  have w50 : ∀ S, binR S .pow (.v (.int 10)) (.v (.int 50)) = some (.v (.int (10 ^ 50))) := fun S => by rfl
  obtain ⟨C, f1, f2, f3⟩ : ∃ C : Int, 1 ≤ C ∧ C ≤ 10 ^ 50 ∧ atI [Val.int 1, .int 9, .int (10 ^ 50)] (p2.dr 3) = some (.int C) := by
    have : p2.dr 3 = 0 ∨ p2.dr 3 = 1 ∨ p2.dr 3 = 2 := by omega
    rcases this with e | e | e <;> rw [e]
    · exact ⟨1, by decide, by decide, rfl⟩
    · exact ⟨9, by decide, by decide, rfl⟩
    · exact ⟨10 ^ 50, by decide, by decide, rfl⟩
  have A : GrA 2 many nms C 12 := ⟨n1, n2, fun s hs => (n3 s hs).gs, f1, Int.le_trans f2 (by decide), by omega, by omega, by omega⟩
  have gg := groF_ok (ns := ns) A
  have gr := fun S => grove2 (P := P) 197 (ns := ns) A S
  generalize groF ns 2 many nms C 12 = g at gg gr
  have mx : mxC C ≤ 10 ^ 50 := by
    unfold mxC
    split
    · decide
    · exact f2
  have mx0 := mxC_3 C
  obtain ⟨B, hBe⟩ : ∃ B, B = (many : Int) * mxC C := ⟨_, rfl⟩
  have hB0 : 0 ≤ B := by rw [hBe]; exact Int.mul_nonneg (by omega) (by omega)
  have hB1 : B + 500 < 2 ^ 219 := by
    have : (many : Int) * mxC C ≤ 41 * 10 ^ 50 := Int.mul_le_mul (by omega) mx (by omega) (by decide)
    have e : (41 : Int) * 10 ^ 50 + 500 < 2 ^ 219 := by decide
    rw [hBe]
    omega
  rw [← hBe] at gg
  have e219 : (2 : Int) ^ 219 < 2 ^ 220 := by decide
  have hBs : B < 2 ^ 220 := by omega
  have w : CB B g := ⟨gg.bnd, gg.sm, by have := gg.dep; omega, by have := gg.siz; omega⟩
  have gp : g.pos := bnd_pos gg.bnd
  have r1 := fun S => right2 h 139 hBs w gp S
  have r0 := fun S => right2 h 139 hBs (g := .nil) ⟨trivial, by simp [Gro.sm]; omega, by simp [Gro.dep], by simp [Gro.siz]⟩ trivial S
  have ls := fun S => lsize2 h 180 hBs 18 g S w w.dep
  have c0 := cnt_nn gp
  obtain ⟨nm, rest, hnm⟩ : ∃ nm rest, nms = nm :: rest := by
    cases nms with
    | nil => simp at n1
    | cons a b => exact ⟨a, b, rfl⟩
  have ix0 : L2.atI (nms.map Val.str) 0 = some (.str nm) := by
    rw [hnm]
    have := at_map Val.str (xs := nm :: rest) (j := 0) (x := nm) rfl
    simpa using this
  have nmg : GS nm 20 := (n3 nm (by rw [hnm]; simp)).gs
  simp at n4
  have t1 := fun S hS => tk S (l := 1) (p := p0) hS 3 (by decide) (by decide)
  have t2 := fun S hS => tk S (l := 1) (p := p1) hS mm (by omega) (by omega)
  have t3 := fun S hS => tk S (l := 1) (p := p2) hS 3 (by decide) (by decide)
  -- a tree more
  have tr : ∀ m : Int, 1 ≤ m → m ≤ 402 → evB2 1 T d_law_l1 [some (.fls (ns.map Val.int)), none, none, none, none, some g.v, some (.int (400 - g.cnt)), some (.tup [.str nm, .tup []]), some (.int m)] D9 = .ok .nx [some (.fls (ns.map Val.int)), none, none, none, none, some g.v, some (.int (400 - g.cnt)), some (.tup [.str nm, .tup []]), none] D9 := by
    intro m q1 q2
    obtain ⟨w2, ct⟩ := more_ok (nm := nm) hB0 hB1 w q1 q2 (by have := gg.siz; omega) gg.dep
    have rr := fun S => right2 h 139 (by omega) w2 (bnd_pos w2.bnd) S
    have td := fun S => tidy2 (P := P) (pr := prG) 198 (np _ _ (by decide)) h.f__law_tidy (rs := rowsG g ++ [((nm, Gro.nil), m)]) (d := 18) (by omega) (by
      intro p hp
      rcases List.mem_append.mp hp with hp | hp
      · have := rows_dep g p hp
        have := w.dep
        obtain ⟨a, b⟩ := row_nm gg.gs p hp
        exact ⟨a, b, by omega⟩
      · simp at hp
        subst hp
        exact ⟨nmg, trivial, by simp [Gro.dep]⟩) (by have := rows_len g; have := g.len_siz; have := w.siz; simp; omega) S
    have ga : ∀ S, binR S .add (.t (.lst g.enc)) (.t (.lst [.tup [.tup [.str nm, .tup []], .int m]])) = some (.t (.lst ((rowsG g ++ [((nm, Gro.nil), m)]).map gpr))) := fun S => by
      simp only [binR, addR, lstW]
      rw [if_pos (le_line (by have := g.len_enc; have := g.len_siz; have := w.siz; simp; omega)), genc_rows]
      simp [gpr, tv, Gro.enc]
    have gl : ∀ S, blt1 S .list (.v g.v) = some (.t (.lst g.enc)) := fun S => by simp [blt1, Gro.v, dicW]
    simp only [D9, T]
    generalize (rowsG g ++ [((nm, Gro.nil), m)]).map gpr = zs at ga td
    generalize toG (tdy (rowsG g ++ [((nm, Gro.nil), m)])) = g2 at rr td
    simp [d_law_l1, gl, ga, td, rr]
  rw [run2_ok 199 (np _ _ (by decide)) h.f_law _ _ rfl (by simp)]
  simp [d_law, List.replicate, pu0, pu1]
  simp [n4]
  simp at gr w50
  simp [p0, p1, p2] at m3 hm t1 t2 t3 f3
  simp [t1, m3, t2, hm, t3, w50, f3, gr]
  simp [Gro.v, Gro.enc] at r0
  simp [r1, r0, ls]
  by_cases lk : 400 - g.cnt < 1
  · simp [lk]
  · have a1 := tr (400 - g.cnt) (by omega) (by omega)
    have a2 := tr (400 - g.cnt + 1) (by omega) (by omega)
    simp only [D9, T] at a1 a2
    simp [lk, ix0, forL, a1, a2]

theorem holds_run : ∀ ns : List Int, ns.length ≤ 63 → ∃ S', run (tab ents) 200 "law" [.fls (ns.map Val.int)] [] = .ok (.v (.bl true)) S' := fun ns h => law_of2 okP 200 "law" ns (main has ns h)
end Lw
open PySem PySem.W PyProof.Rows
set_option maxRecDepth 100000 in
set_option maxHeartbeats 0 in
theorem PySem.Challenge.cw_felltimber_k68_orders_by_sizes_holds : PySem.Challenge.rw_felltimber_k68_orders_by_sizes.Holds := by
  w_on; o_law; k_head; (case hw => w_witness2)
  k_fill
  refine L2.walk_of (l := PySem.Challenge.rw_felltimber_k68_orders_by_sizes) (n := 63) (k := 200) (x := "_law_script") (CX := fun w => L2.CX PySem.Challenge.rw_felltimber_k68_orders_by_sizes.prog w) (sp := fun w => Fe.spF _ (Fe.run (Fe.tab Lw.ents) 200) "law" 1) rfl (by decide) rfl ⟨rfl, by decide, by decide⟩ (fun w h Y => PySem.W.kIn_of Y) ?F (fun _ H a ns hl hO hS => Fe.law_sp Lw.holds_run H a ns hl hO hS) (fun _ _ _ _ _ h => Fe.cx_no h)
  case F =>
    intro w mg fa h KX G hmg
    refine' Fe.law_of (G := Lw.glb) (es := Lw.ents) (e := Lw.e_law) Lw.ents_nd Lw.ents_ok Lw.glb_ok ⟨?fB, ?fC, ?fX⟩ ?fH (List.mem_of_getElem? (i := 12) rfl) rfl rfl hmg (fun _ _ _ _ _ _ _ => rfl)
    case fC => 
      intro x v hx
      simp only [Lw.glb, List.mem_cons, List.not_mem_nil, or_false, Prod.mk.injEq] at hx
      rcases hx with ⟨rfl, rfl⟩
      · refine' Fe.glob_of KX G ?ns ?gv
        (case ns => k_is)
        (case gv =>
          exact Fe.GV.int
        )

    case fX => 
      intro c sups hc
      simp only [Lw.glb, List.mem_cons, List.not_mem_nil, or_false, Prod.mk.injEq] at hc
      rcases hc with ⟨rfl, rfl⟩
      · refine' ⟨_, Fe.ec_of KX G ?ns ?kp ?ex ?sb ?ty ?e1 ?e2 ?e3 ?e4 ?e5 ?e6 ?e7 ?e8 ?as⟩
        (case ns => k_is)
        (case kp => k_is)
        (case ex => k_exc)
        (case sb => k_is)
        (case ty => k_is)
        (case e1 => k_is)
        (case e2 => k_is)
        (case e3 => k_is)
        (case e4 => k_is)
        (case e5 => k_is)
        (case e6 => k_is)
        (case e7 => k_is)
        (case e8 => k_is)
        case as =>
          intro n hn
          simp only [Lw.glb, List.mem_cons, List.not_mem_nil, or_false] at hn
          rcases hn with rfl | rfl | rfl | rfl | rfl | rfl | rfl | rfl | rfl | rfl | rfl | rfl | rfl | rfl | rfl | rfl | rfl | rfl | rfl | rfl | rfl
          · refine' Fe.as_own (b := true) KX G ?q1 ?q2 ?q3 ?q4 ?q5 ?q6 (by decide +kernel)
            (case q1 => k_is); (case q2 => k_is); (case q3 => k_is); (case q4 => k_is); (case q5 => first | k_is | rfl); (case q6 => decide)
          · refine' Fe.as_own (b := true) KX G ?q1 ?q2 ?q3 ?q4 ?q5 ?q6 (by decide +kernel)
            (case q1 => k_is); (case q2 => k_is); (case q3 => k_is); (case q4 => k_is); (case q5 => first | k_is | rfl); (case q6 => decide)
          · refine' Fe.as_blt (b := true) (t := "ValueError") KX G ?q1 (by decide +kernel) (by decide +kernel) (by decide +kernel) ?q2 ?q3 (by decide +kernel)
            (case q1 => k_is); (case q2 => k_is); (case q3 => k_is)
          · refine' Fe.as_own (b := false) KX G ?q1 ?q2 ?q3 ?q4 ?q5 ?q6 (by decide +kernel)
            (case q1 => k_is); (case q2 => k_is); (case q3 => k_is); (case q4 => k_is); (case q5 => first | k_is | rfl); (case q6 => decide)
          · refine' Fe.as_own (b := false) KX G ?q1 ?q2 ?q3 ?q4 ?q5 ?q6 (by decide +kernel)
            (case q1 => k_is); (case q2 => k_is); (case q3 => k_is); (case q4 => k_is); (case q5 => first | k_is | rfl); (case q6 => decide)
          · refine' Fe.as_own (b := false) KX G ?q1 ?q2 ?q3 ?q4 ?q5 ?q6 (by decide +kernel)
            (case q1 => k_is); (case q2 => k_is); (case q3 => k_is); (case q4 => k_is); (case q5 => first | k_is | rfl); (case q6 => decide)
          · refine' Fe.as_own (b := false) KX G ?q1 ?q2 ?q3 ?q4 ?q5 ?q6 (by decide +kernel)
            (case q1 => k_is); (case q2 => k_is); (case q3 => k_is); (case q4 => k_is); (case q5 => first | k_is | rfl); (case q6 => decide)
          · refine' Fe.as_own (b := false) KX G ?q1 ?q2 ?q3 ?q4 ?q5 ?q6 (by decide +kernel)
            (case q1 => k_is); (case q2 => k_is); (case q3 => k_is); (case q4 => k_is); (case q5 => first | k_is | rfl); (case q6 => decide)
          · refine' Fe.as_own (b := false) KX G ?q1 ?q2 ?q3 ?q4 ?q5 ?q6 (by decide +kernel)
            (case q1 => k_is); (case q2 => k_is); (case q3 => k_is); (case q4 => k_is); (case q5 => first | k_is | rfl); (case q6 => decide)
          · refine' Fe.as_own (b := false) KX G ?q1 ?q2 ?q3 ?q4 ?q5 ?q6 (by decide +kernel)
            (case q1 => k_is); (case q2 => k_is); (case q3 => k_is); (case q4 => k_is); (case q5 => first | k_is | rfl); (case q6 => decide)
          · refine' Fe.as_own (b := false) KX G ?q1 ?q2 ?q3 ?q4 ?q5 ?q6 (by decide +kernel)
            (case q1 => k_is); (case q2 => k_is); (case q3 => k_is); (case q4 => k_is); (case q5 => first | k_is | rfl); (case q6 => decide)
          · refine' Fe.as_own (b := false) KX G ?q1 ?q2 ?q3 ?q4 ?q5 ?q6 (by decide +kernel)
            (case q1 => k_is); (case q2 => k_is); (case q3 => k_is); (case q4 => k_is); (case q5 => first | k_is | rfl); (case q6 => decide)
          · refine' Fe.as_own (b := false) KX G ?q1 ?q2 ?q3 ?q4 ?q5 ?q6 (by decide +kernel)
            (case q1 => k_is); (case q2 => k_is); (case q3 => k_is); (case q4 => k_is); (case q5 => first | k_is | rfl); (case q6 => decide)
          · refine' Fe.as_own (b := false) KX G ?q1 ?q2 ?q3 ?q4 ?q5 ?q6 (by decide +kernel)
            (case q1 => k_is); (case q2 => k_is); (case q3 => k_is); (case q4 => k_is); (case q5 => first | k_is | rfl); (case q6 => decide)
          · refine' Fe.as_own (b := false) KX G ?q1 ?q2 ?q3 ?q4 ?q5 ?q6 (by decide +kernel)
            (case q1 => k_is); (case q2 => k_is); (case q3 => k_is); (case q4 => k_is); (case q5 => first | k_is | rfl); (case q6 => decide)
          · refine' Fe.as_own (b := false) KX G ?q1 ?q2 ?q3 ?q4 ?q5 ?q6 (by decide +kernel)
            (case q1 => k_is); (case q2 => k_is); (case q3 => k_is); (case q4 => k_is); (case q5 => first | k_is | rfl); (case q6 => decide)
          · refine' Fe.as_own (b := false) KX G ?q1 ?q2 ?q3 ?q4 ?q5 ?q6 (by decide +kernel)
            (case q1 => k_is); (case q2 => k_is); (case q3 => k_is); (case q4 => k_is); (case q5 => first | k_is | rfl); (case q6 => decide)
          · refine' Fe.as_own (b := false) KX G ?q1 ?q2 ?q3 ?q4 ?q5 ?q6 (by decide +kernel)
            (case q1 => k_is); (case q2 => k_is); (case q3 => k_is); (case q4 => k_is); (case q5 => first | k_is | rfl); (case q6 => decide)
          · refine' Fe.as_own (b := false) KX G ?q1 ?q2 ?q3 ?q4 ?q5 ?q6 (by decide +kernel)
            (case q1 => k_is); (case q2 => k_is); (case q3 => k_is); (case q4 => k_is); (case q5 => first | k_is | rfl); (case q6 => decide)
          · refine' Fe.as_own (b := false) KX G ?q1 ?q2 ?q3 ?q4 ?q5 ?q6 (by decide +kernel)
            (case q1 => k_is); (case q2 => k_is); (case q3 => k_is); (case q4 => k_is); (case q5 => first | k_is | rfl); (case q6 => decide)
          · refine' Fe.as_own (b := false) KX G ?q1 ?q2 ?q3 ?q4 ?q5 ?q6 (by decide +kernel)
            (case q1 => k_is); (case q2 => k_is); (case q3 => k_is); (case q4 => k_is); (case q5 => first | k_is | rfl); (case q6 => decide)

    case fB =>
      intro x hx
      refine PySem.W.mg_none_of KX G ?_
      simp only [Fe.bltNames, List.mem_cons, List.not_mem_nil, or_false] at hx
      rcases hx with rfl | rfl | rfl | rfl | rfl | rfl | rfl | rfl | rfl | rfl | rfl | rfl | rfl | rfl | rfl | rfl | rfl | rfl | rfl
      all_goals k_is
    case fH =>
      refine List.forall_mem_cons.mpr ⟨?_, ?_⟩
      · refine' Fe.held (e := Lw.e_size) KX G ?a ?l ?c ?k (fun _ _ _ _ _ _ us hl => match us, hl with | [_], _ => rfl)
        (case a => k_is); (case l => k_is); (case c => k_is); (case k => k_is)
      refine List.forall_mem_cons.mpr ⟨?_, ?_⟩
      · refine' Fe.held (e := Lw.e_sizes_of) KX G ?a ?l ?c ?k (fun _ _ _ _ _ _ us hl => match us, hl with | [_], _ => rfl)
        (case a => k_is); (case l => k_is); (case c => k_is); (case k => k_is)
      refine List.forall_mem_cons.mpr ⟨?_, ?_⟩
      · refine' Fe.held (e := Lw.e_orders) KX G ?a ?l ?c ?k (fun _ _ _ _ _ _ us hl => match us, hl with | [_], _ => rfl)
        (case a => k_is); (case l => k_is); (case c => k_is); (case k => k_is)
      refine List.forall_mem_cons.mpr ⟨?_, ?_⟩
      · refine' Fe.held (e := Lw.e__law_purse) KX G ?a ?l ?c ?k (fun _ _ _ _ _ _ us hl => match us, hl with | [_, _], _ => rfl)
        (case a => k_is); (case l => k_is); (case c => k_is); (case k => k_is)
      refine List.forall_mem_cons.mpr ⟨?_, ?_⟩
      · refine' Fe.held (e := Lw.e__law_take) KX G ?a ?l ?c ?k (fun _ _ _ _ _ _ us hl => match us, hl with | [_, _], _ => rfl)
        (case a => k_is); (case l => k_is); (case c => k_is); (case k => k_is)
      refine List.forall_mem_cons.mpr ⟨?_, ?_⟩
      · refine' Fe.held (e := Lw.e__law_names) KX G ?a ?l ?c ?k (fun _ _ _ _ _ _ us hl => match us, hl with | [_], _ => rfl)
        (case a => k_is); (case l => k_is); (case c => k_is); (case k => k_is)
      refine List.forall_mem_cons.mpr ⟨?_, ?_⟩
      · refine' Fe.held (e := Lw.e__law_tidy) KX G ?a ?l ?c ?k (fun _ _ _ _ _ _ us hl => match us, hl with | [_], _ => rfl)
        (case a => k_is); (case l => k_is); (case c => k_is); (case k => k_is)
      refine List.forall_mem_cons.mpr ⟨?_, ?_⟩
      · refine' Fe.held (e := Lw.e__law_grove) KX G ?a ?l ?c ?k (fun _ _ _ _ _ _ us hl => match us, hl with | [_, _, _, _, _, _], _ => rfl)
        (case a => k_is); (case l => k_is); (case c => k_is); (case k => k_is)
      refine List.forall_mem_cons.mpr ⟨?_, ?_⟩
      · refine' Fe.held (e := Lw.e__law_size) KX G ?a ?l ?c ?k (fun _ _ _ _ _ _ us hl => match us, hl with | [_], _ => rfl)
        (case a => k_is); (case l => k_is); (case c => k_is); (case k => k_is)
      refine List.forall_mem_cons.mpr ⟨?_, ?_⟩
      · refine' Fe.held (e := Lw.e__law_sizes) KX G ?a ?l ?c ?k (fun _ _ _ _ _ _ us hl => match us, hl with | [_], _ => rfl)
        (case a => k_is); (case l => k_is); (case c => k_is); (case k => k_is)
      refine List.forall_mem_cons.mpr ⟨?_, ?_⟩
      · refine' Fe.held (e := Lw.e__law_refused) KX G ?a ?l ?c ?k (fun _ _ _ _ _ _ us hl => match us, hl with | [_], _ => rfl)
        (case a => k_is); (case l => k_is); (case c => k_is); (case k => k_is)
      refine List.forall_mem_cons.mpr ⟨?_, ?_⟩
      · refine' Fe.held (e := Lw.e__law_right) KX G ?a ?l ?c ?k (fun _ _ _ _ _ _ us hl => match us, hl with | [_], _ => rfl)
        (case a => k_is); (case l => k_is); (case c => k_is); (case k => k_is)
      refine List.forall_mem_cons.mpr ⟨?_, ?_⟩
      · refine' Fe.held (e := Lw.e_law) KX G ?a ?l ?c ?k (fun _ _ _ _ _ _ us hl => match us, hl with | [_], _ => rfl)
        (case a => k_is); (case l => k_is); (case c => k_is); (case k => k_is)
      exact List.forall_mem_nil _
