import PyProof.Rows.All
import Wide.All
import OpenK.AllK
import Wide.FinOn
import PySem.Str
import PySem.Builtin.Int.W1All
import HandS.ForMost
import HandS.ForExc
import HandS.TupAny
import HandS.Deep
import HandS.Property
import HandS.IsInst
import HandS.Zip
import HandS.Walk
import KE.KeyNested
import HandS.TupLen
import KE.KDictCopyH
import HandS.Iter
import HandS.Wide
import HandS.Style
import PyProof.Rows.IntBool
import HandS.MakeKwOnly
import HandS.ClsMeth
import HandS.Star
import PyProof.Rows.TupDisplay
import KE.GoesEnum
import HandS.RevRange
import HandS.DictComp
import HandS.ExcField
import HandS.TryOnly
import KE.KExcIs
import HandS.ExcIs
import HandS.WordsExc
import KE.KExcSuper
import HandS.ExcInit
import KE.SortData
import KE.KDictSum
import HandS.ExcValue
import KE.BitLaws
import PySem.Challenge.RW_powersanddays_k00_codes_made_and_refused
set_option Elab.async false
set_option linter.all false
set_option maxRecDepth 100000
set_option maxHeartbeats 4000000
/-! A small value language over which the walks of the defs are told. -/
namespace Fx
open PySem

/-- data, deep -/
inductive D where
  | non
  | bl (b : Bool)
  | int (i : Int)
  | str (s : Str)
  | tup (xs : List D)
  | lst (xs : List D)
  | dct (ks vs : List D)
  | st (xs : List D)
  | scr (ns : List Int)
  | ins (C : Nat) (fs : List D)
  | exc (C : Nat) (fs : List D)
  deriving Inhabited

/-- frz: nobody changes it any more; own: held by one slot (or fresh); bor: somebody's own, to be read now -/
inductive Mode where
  | frz | own | bor | lnt
  deriving DecidableEq, Inhabited

/-- a result: a value, an exception (class, fields), or nothing is said -/
inductive R (α : Type) where
  | ok (a : α)
  | ex (C : Nat) (fs : List D)
  | no

namespace R
def bind {α β : Type} (r : R α) (f : α → R β) : R β := match r with
  | .ok a => f a
  | .ex C fs => .ex C fs
  | .no => .no
@[simp] theorem bind_ok {α β : Type} (a : α) (f : α → R β) : (R.ok a).bind f = f a := id rfl
@[simp] theorem bind_ex {α β : Type} (C : Nat) (fs : List D) (f : α → R β) : (R.ex C fs : R α).bind f = .ex C fs := id rfl
@[simp] theorem bind_no {α β : Type} (f : α → R β) : (R.no : R α).bind f = .no := id rfl
def guard (b : Bool) : R Unit := if b then .ok () else .no
@[simp] theorem guard_true : guard true = .ok () := id rfl
@[simp] theorem guard_false : guard false = .no := id rfl
end R

abbrev Val := Mode × D
abbrev Env := List (Option Val)
/-- what a def is: arguments in, a value out -/
abbrev Sem' := List Val → R Val

mutual
def D.dat : D → Bool
  | .non => true
  | .bl _ => true
  | .int _ => true
  | .str s => s.cps.all (· < 0x110000)
  | .tup xs => D.datL xs
  | .lst xs => D.datL xs
  | .dct _ _ => false
  | .st _ => false
  | .scr _ => false
  | .ins _ _ => false
  | .exc _ _ => false
def D.datL : List D → Bool
  | [] => true
  | x :: xs => x.dat && D.datL xs
end
mutual
def D.dep : D → Nat
  | .tup xs => D.depL xs + 1
  | .lst xs => D.depL xs + 1
  | .non => 0
  | .bl _ => 0
  | .int _ => 0
  | .str _ => 0
  | .dct _ _ => 0
  | .st _ => 0
  | .scr _ => 0
  | .ins _ _ => 0
  | .exc _ _ => 0
def D.depL : List D → Nat
  | [] => 0
  | x :: xs => max x.dep (D.depL xs)
end
mutual
/-- Python's == on data -/
def D.eqv : D → D → Bool
  | .non, .non => true
  | .bl a, .bl b => a == b
  | .bl a, .int j => (if a then 1 else 0) == j
  | .int i, .bl b => i == (if b then 1 else 0)
  | .int i, .int j => i == j
  | .str x, .str y => x == y
  | .lst xs, .lst ys => D.eqvL xs ys
  | .tup xs, .tup ys => D.eqvL xs ys
  | _, _ => false
def D.eqvL : List D → List D → Bool
  | [], [] => true
  | x :: xs, y :: ys => D.eqv x y && D.eqvL xs ys
  | _, _ => false
end
/-- data that may be compared -/
def D.cmpOk (d : D) : Bool := d.dat && decide (d.dep ≤ 60)

mutual
/-- data that may stand in a key -/
def D.kdat : D → Bool
  | .non => true
  | .bl _ => true
  | .int _ => true
  | .str s => s.cps.all (· < 0x110000)
  | .tup xs => D.kdatL xs
  | .lst _ => false
  | .dct _ _ => false
  | .st _ => false
  | .scr _ => false
  | .ins _ _ => false
  | .exc _ _ => false
def D.kdatL : List D → Bool
  | [] => true
  | x :: xs => x.kdat && D.kdatL xs
end
/-- a key of a dict: a tuple, nested -/
def D.keyOk : D → Bool
  | .tup xs => D.kdatL xs && decide (D.depL xs ≤ 6)
  | _ => false
/-- where a key stands -/
def dIx (ks : List D) (k : D) : Option Nat := ks.findIdx? fun z => D.eqv z k
def dGet (ks vs : List D) (k : D) : Option D := (dIx ks k).bind fun i => vs[i]?
def dPut (ks vs : List D) (k v : D) : List D × List D := match dIx ks k with
  | some i => (ks, vs.set i v)
  | none => (ks ++ [k], vs ++ [v])

inductive Bop where | add | sub | mul | fdiv | mod | pow | shl | shr | and | or | xor
  deriving DecidableEq
inductive Cop where | lt | le | gt | ge | eq | ne | inn | nin | isb | isnb
  deriving DecidableEq
/-- what may stand behind isinstance's comma -/
inductive Ty where | int | bool | str | tuple | list | dict | cls (C : Nat) (x : Str)
  deriving DecidableEq
/-- built-in functions of plain arguments -/
inductive Bi where | len | abs | int | bool | all | any | sum | tuple | list | sorted | min | max
  deriving DecidableEq
/-- what a for walks -/
inductive SK where | seq | range | enum | zip | rev | rrng
  deriving DecidableEq
/-- targets -/
inductive T where
  | nm (i : Nat)
  | tp (ts : List T)

def sizeL : Nat := 16777216

/-! ### operations on data -/
def lim62 (i : Int) : Bool := decide (-(2 ^ 62) ≤ i ∧ i < 2 ^ 62)
def lim64 (i : Int) : Bool := decide (-(2 ^ 64) < i ∧ i < 2 ^ 64)
def binI (op : Bop) (i j : Int) : R Int := match op with
  | .add => .ok (i + j)
  | .sub => .ok (i - j)
  | .mul => if lim64 i || lim64 j then .ok (i * j) else .no
  | .fdiv => if 0 < j ∧ j < 18446744073709551616 then .ok (i / j) else .no
  | .mod => if 0 < j then .ok (i % j) else .no
  | .pow => if 0 ≤ j ∧ j ≤ 1000000 ∧ i.natAbs < 2 ^ 64 then .ok (i ^ j.toNat) else .no
  | .shl => if 0 ≤ j ∧ j ≤ 1000000 ∧ i.natAbs < 2 ^ 64 then .ok (i * 2 ^ j.toNat) else .no
  | .shr => if 0 ≤ j then .ok (i / 2 ^ j.toNat) else .no
  | .and => .ok (Builtin.bitAnd i j)
  | .or => .ok (Builtin.bitOr i j)
  | .xor => .ok (Builtin.bitXor i j)
def binop (op : Bop) (x y : D) : R Val := match x, y with
  | .int i, .int j => (binI op i j).bind fun k => .ok (.frz, .int k)
  | .bl b, .int n => match op with
    | .mul => .ok (.frz, .int ((if b = true then (1 : Int) else 0) * n))
    | _ => .no
  | .int n, .bl b => match op with
    | .mul => .ok (.frz, .int (n * if b = true then (1 : Int) else 0))
    | _ => .no
  | .lst xs, .int n => match op with
    | .mul => if lim62 n && decide (xs.length * n.toNat ≤ sizeL) then .ok (.own, .lst (List.replicate n.toNat xs).flatten) else .no
    | _ => .no
  | .lst xs, .lst ys => match op with
    | .add => if xs.length ≤ sizeL ∧ ys.length ≤ sizeL ∧ xs.length + ys.length ≤ sizeL then .ok (.own, .lst (xs ++ ys)) else .no
    | _ => .no
  | .tup xs, .tup ys => match op with
    | .add => if xs.length ≤ sizeL ∧ ys.length ≤ sizeL ∧ xs.length + ys.length ≤ sizeL then .ok (.frz, .tup (xs ++ ys)) else .no
    | _ => .no
  | _, _ => .no
def eqOp (x y : D) : R Bool := match x, y with
  | .str a, .str b => .ok (a == b)
  | x, y => if x.cmpOk && y.cmpOk then .ok (D.eqv x y) else .no
def inOp (x y : D) : R Bool := match y with
  | .lst ys => if x.cmpOk && (D.lst ys).cmpOk then .ok (ys.any fun z => D.eqv z x) else .no
  | .tup ys => if x.cmpOk && (D.tup ys).cmpOk then .ok (ys.any fun z => D.eqv z x) else .no
  | .dct ks _ => if x.keyOk then .ok (dIx ks x).isSome else .no
  | _ => .no
def cmpI (op : Cop) (i j : Int) : R Bool := match op with
  | .lt => .ok (decide (i < j))
  | .le => .ok (decide (i ≤ j))
  | .gt => .ok (decide (j < i))
  | .ge => .ok (decide (j ≤ i))
  | .eq => .ok (decide (i = j))
  | .ne => .ok (!decide (i = j))
  | _ => .no
def cmpop (op : Cop) (x y : D) : R Bool := match op with
  | .eq => eqOp x y
  | .ne => (eqOp x y).bind fun b => .ok (!b)
  | .inn => inOp x y
  | .nin => (inOp x y).bind fun b => .ok (!b)
  | .isb => match x, y with
    | .bl a, .bl b => .ok (decide (a = b))
    | _, _ => .no
  | .isnb => match x, y with
    | .bl a, .bl b => .ok (!decide (a = b))
    | _, _ => .no
  | _ => match x, y with
    | .int i, .int j => cmpI op i j
    | _, _ => .no
def isNon : D → Bool
  | .non => true
  | _ => false
/-- the item at an index of any sign -/
def atIx {α : Type} (xs : List α) (i : Int) : Option α := if 0 ≤ i then xs[i.toNat]? else if 0 ≤ i + xs.length then xs[(i + xs.length).toNat]? else none
def ixOp (o i : D) : R D := match o, i with
  | .lst xs, .int i => match atIx xs i with | some d => .ok d | none => .no
  | .tup xs, .int i => match atIx xs i with | some d => .ok d | none => .no
  | .scr xs, .int i => match atIx xs i with | some n => .ok (.int n) | none => .no
  | .dct ks vs, k => if k.keyOk then (match dGet ks vs k with | some d => .ok d | none => .no) else .no
  | _, _ => .no
/-- a slice's end, as Python clips it -/
def clip (n : Nat) (dflt : Nat) : Option Int → Nat
  | none => dflt
  | some i => if 0 ≤ i then min i.toNat n else (max (i + n) 0).toNat
def cutL {α : Type} (xs : List α) (lo hi : Option Int) : List α :=
  let a := clip xs.length 0 lo
  let b := clip xs.length xs.length hi
  (xs.drop a).take (b - a)
def ofTy (d : D) (t : Ty) : Option Bool := match d with
  | .non => match t with | .cls _ _ => none | _ => some false
  | .bl _ => match t with | .int => some true | .bool => some true | .cls _ _ => none | _ => some false
  | .int _ => match t with | .int => some true | .cls _ _ => none | _ => some false
  | .str _ => match t with | .str => some true | .cls _ _ => none | _ => some false
  | .tup _ => match t with | .tuple => some true | .cls _ _ => none | _ => some false
  | .lst _ => match t with | .list => some true | .cls _ _ => none | _ => some false
  | .ins C' _ => match t with | .cls C _ => if C = C' then some true else none | _ => none
  | _ => none
/-- a list of bools, of ints -/
def boolsOf : List D → Option (List Bool)
  | [] => some []
  | .bl b :: r => (boolsOf r).map (b :: ·)
  | _ => none
def intsOf : List D → Option (List Int)
  | [] => some []
  | .int b :: r => (intsOf r).map (b :: ·)
  | _ => none
def R.ofOpt {α : Type} : Option α → R α
  | some a => .ok a
  | none => .no
@[simp] theorem R.ofOpt_some {α : Type} (a : α) : R.ofOpt (some a) = .ok a := id rfl
@[simp] theorem R.ofOpt_none {α : Type} : R.ofOpt (none : Option α) = .no := id rfl
def biLen : List D → R Val
  | [.lst ys] => if ys.length ≤ sizeL then .ok (.frz, .int ys.length) else .no
  | [.tup ys] => if ys.length ≤ sizeL then .ok (.frz, .int ys.length) else .no
  | [.scr ys] => if ys.length ≤ sizeL then .ok (.frz, .int ys.length) else .no
  | [.dct ks _] => if ks.length ≤ sizeL then .ok (.frz, .int ks.length) else .no
  | _ => .no
def biAbs : List D → R Val
  | [.int i] => .ok (.frz, .int (if i < 0 then -i else i))
  | _ => .no
def biInt : List D → R Val
  | [.int i] => .ok (.frz, .int i)
  | [.bl b] => .ok (.frz, .int (if b then 1 else 0))
  | _ => .no
def biAll : List D → R Val
  | [.lst ys] => (R.ofOpt (boolsOf ys)).bind fun bs => .ok (.frz, .bl (bs.all id))
  | _ => .no
def biAny : List D → R Val
  | [.lst ys] => (R.ofOpt (boolsOf ys)).bind fun bs => .ok (.frz, .bl (bs.any id))
  | _ => .no
def biSum : List D → R Val
  | [.lst ys] => (R.ofOpt (intsOf ys)).bind fun ns => .ok (.frz, .int ns.sum)
  | _ => .no
def biTuple : List D → R Val
  | [.lst ys] => .ok (.frz, .tup ys)
  | [.tup ys] => .ok (.frz, .tup ys)
  | _ => .no
def biList : List D → R Val
  | [.dct ks _] => .ok (.own, .lst ks)
  | [.lst ys] => .ok (.own, .lst ys)
  | [.tup ys] => .ok (.own, .lst ys)
  | _ => .no
def biMax : List D → R Val
  | [.int i, .int j] => .ok (.frz, .int (if j > i then j else i))
  | _ => .no
def biMin : List D → R Val
  | [.int i, .int j] => .ok (.frz, .int (if j < i then j else i))
  | _ => .no
def biOp (b : Bi) (xs : List D) : R Val := match b with
  | .len => biLen xs
  | .abs => biAbs xs
  | .int => biInt xs
  | .all => biAll xs
  | .any => biAny xs
  | .sum => biSum xs
  | .tuple => biTuple xs
  | .list => biList xs
  | .max => biMax xs
  | .min => biMin xs
  | .bool => .no
  | .sorted => .no
/-- the items that a for walks -/
def rngL (lo : Int) (n : Nat) : List D := (List.range n).map fun (k : Nat) => D.int (lo + (k : Int))
def enumL (xs : List D) : List D := xs.mapIdx fun i d => D.tup [.int (i : Int), d]
def zipL (xs ys : List D) : List D := List.zipWith (fun a b => D.tup [a, b]) xs ys
def seqItems : D → R (List D)
  | .lst xs => .ok xs
  | .tup xs => .ok xs
  | _ => .no
def srcItems (k : SK) (vs : List D) : R (List D) := match k, vs with
  | .seq, [.dct ks _] => .ok ks
  | .seq, [d] => seqItems d
  | .range, [.int j] => if lim62 j then .ok (rngL 0 j.toNat) else .no
  | .range, [.int i, .int j] => if lim62 i && lim62 j then .ok (rngL i (j - i).toNat) else .no
  | .enum, [.lst xs] => .ok (enumL xs)
  | .enum, [.tup xs] => .ok (enumL xs)
  | .zip, [.lst xs, .lst ys] => .ok (zipL xs ys)
  | .zip, [.tup xs, .tup ys] => .ok (zipL xs ys)
  | .rev, [.lst xs] => .ok xs.reverse
  | .rrng, [.int j] => if lim62 j then .ok (rngL 0 j.toNat).reverse else .no
  | _, _ => .no

/-! ### slots -/
def isExc : D → Bool
  | .exc _ _ => true
  | _ => false
def getS (env : Env) (i : Nat) : R Val := match env[i]? with
  | some (some (m, d)) => if isExc d then .no else .ok (if m = .own then .lnt else m, d)
  | _ => .no
/-- the exception that an except clause's name holds -/
def getX (env : Env) (i : Nat) : R (Nat × List D) := match env[i]? with
  | some (some (.frz, .exc C fs)) => .ok (C, fs)
  | _ => .no
def setS (env : Env) (i : Nat) (v : Val) : Env := env.set i (some v)
def wipeE (env : Env) : List Nat → Env
  | [] => env
  | v :: vs => (wipeE env vs).set v none
/-- a value that may be kept anywhere -/
def esc : Val → R D
  | (.frz, d) => .ok d
  | (.own, d) => .ok d
  | (.bor, _) => .no
  | (.lnt, _) => .no
/-- what a for walks is not an own slot's -/
def noLnt : Val → R D
  | (.lnt, _) => .no
  | (_, d) => .ok d
/-- as an argument: an own thing is lent -/
def toArg : Val → Val
  | (.lnt, d) => (.bor, d)
  | v => v
def rd : Val → R D := fun v => .ok v.2
/-- as an argument -/
def pas : Val → Val
  | (.own, d) => (.frz, d)
  | v => v
mutual
def bindT : T → D → Env → R Env
  | .nm i, d, env => .ok (setS env i (.frz, d))
  | .tp ts, d, env => match d with
    | .tup xs => bindTs ts xs env
    | _ => .no
def bindTs : List T → List D → Env → R Env
  | [], [], env => .ok env
  | t :: ts, x :: xs, env => (bindT t x env).bind fun env1 => bindTs ts xs env1
  | _, _, _ => .no
end

/-! ### expressions -/
inductive E where
  | var (i : Nat)
  | cint (i : Int)
  | cbl (b : Bool)
  | cnon
  | cstr (s : Str)
  | gcon (x : Str) (d : D)
  | ccon (x : Str) (C : Nat) (m : Str) (d : D)
  | bin (op : Bop) (a b : E)
  | neg (a : E)
  | inv (a : E)
  | not (a : E)
  | cmp (op : Cop) (a b : E)
  | chain (o1 o2 : Cop) (a b c : E)
  | isn (a : E)
  | isnn (a : E)
  | ands (es : List E)
  | ors (es : List E)
  | ife (c a b : E)
  | tup (es : List E)
  | lst (es : List E)
  | call (x : Str) (f : Sem') (es : List E)
  | new (x : Str) (C : Nat) (f : Sem') (es : List E)
  | meth (C : Nat) (m : Str) (f : Sem') (o : E) (es : List E)
  | prop (C : Nat) (m : Str) (f : Sem') (o : E)
  | fld (C j : Nat) (m : Str) (o : E)
  | bi (b : Bi) (es : List E)
  | isi (o : E) (t : Ty)
  | xfld (i : Nat) (n : Str) (tab : List (Nat × Nat))
  | xis (i : Nat) (x : Str) (C : Nat) (tab : List (Nat × Bool))
  | ix (o i : E)
  | slc (o : E) (lo hi : List E)
  | lc (elt : E) (tgt : T) (sk : SK) (src : List E) (ifs : List E) (own : List Nat)
  | newK (x : Str) (C : Nat) (f : Sem') (es : List E) (kn : List Str) (ks : List E)
  | dnew
  | disp (k v : E)
  | mrg (a b : E)
  | dc (k v : E) (tgt : T) (sk : SK) (src : List E) (own : List Nat)
  | sset (elt : E) (tgt : T) (sk : SK) (src : List E) (own : List Nat)
  | stl (tp : Bool) (bs : List Bool) (es : List E)
  | srev (o : E)

/-- one value after another -/
def mapR {α β : Type} (f : α → R β) : List α → R (List β)
  | [] => .ok []
  | a :: r => (f a).bind fun b => (mapR f r).bind fun bs => .ok (b :: bs)
/-- a comprehension's items -/
def lcLoop (bindf : D → R Env) (test : Env → R Bool) (elt : Env → R D) : List D → R (List D)
  | [] => .ok []
  | d :: r => (bindf d).bind fun env => (test env).bind fun b =>
      if b then (elt env).bind fun y => (lcLoop bindf test elt r).bind fun ys => .ok (y :: ys) else lcLoop bindf test elt r
/-- a dict comprehension's items, put one after another -/
def dcLoop (bindf : D → R Env) (key val : Env → R D) : List D → List D → List D → R (List D × List D)
  | [], ks, vs => .ok (ks, vs)
  | d :: r, ks, vs => (bindf d).bind fun env => (key env).bind fun k => (val env).bind fun v =>
      if k.keyOk && decide (ks.length < sizeL) then dcLoop bindf key val r (dPut ks vs k v).1 (dPut ks vs k v).2 else .no
/-- pairs, one after another, into a dict -/
def dPuts : List D → List D → List D → List D → List D × List D
  | ks, vs, k :: r, v :: t => dPuts (dPut ks vs k v).1 (dPut ks vs k v).2 r t
  | ks, vs, _, _ => (ks, vs)
/-- whole numbers in order, each once -/
def insI (x : Int) : List Int → List Int
  | [] => [x]
  | y :: r => if x < y then x :: y :: r else if x = y then y :: r else y :: insI x r
def sortI (xs : List Int) : List Int := xs.foldr insI []
def noEx {α : Type} : R α → R α
  | .ok a => .ok a
  | _ => .no
@[simp] theorem noEx_ok {α : Type} (a : α) : noEx (R.ok a) = .ok a := id rfl
@[simp] theorem noEx_no {α : Type} : noEx (R.no : R α) = .no := id rfl
def asB : D → R Bool
  | .bl b => .ok b
  | _ => .no
@[simp] theorem asB_bl (b : Bool) : asB (.bl b) = .ok b := id rfl
def asInt : D → R Int
  | .int i => .ok i
  | _ => .no
@[simp] theorem asInt_int (i : Int) : asInt (.int i) = .ok i := id rfl
def asLst : D → R (List D)
  | .lst xs => .ok xs
  | _ => .no
@[simp] theorem asLst_lst (xs : List D) : asLst (.lst xs) = .ok xs := id rfl
def asIns (C : Nat) : D → R (List D)
  | .ins C' fs => if C = C' then .ok fs else .no
  | _ => .no
def sliceOp (d : D) (lo hi : Option Int) : R Val := match d with
  | .lst xs => .ok (.own, .lst (cutL xs lo hi))
  | .tup xs => .ok (.frz, .tup (cutL xs lo hi))
  | _ => .no

mutual
def eval : E → Env → R Val
  | .var i, env => getS env i
  | .cint i, _ => .ok (.frz, .int i)
  | .cbl b, _ => .ok (.frz, .bl b)
  | .cnon, _ => .ok (.frz, .non)
  | .cstr s, _ => .ok (.frz, .str s)
  | .gcon _ d, _ => .ok (.frz, d)
  | .ccon _ _ _ d, _ => .ok (.frz, d)
  | .bin op a b, env => (eval a env).bind fun x => (eval b env).bind fun y => binop op x.2 y.2
  | .neg a, env => (eval a env).bind fun x => (asInt x.2).bind fun i => .ok (.frz, .int (-i))
  | .inv a, env => (eval a env).bind fun x => (asInt x.2).bind fun i => .ok (.frz, .int (Builtin.bitNot i))
  | .not a, env => (eval a env).bind fun x => (asB x.2).bind fun b => .ok (.frz, .bl (!b))
  | .cmp op a b, env => (eval a env).bind fun x => (eval b env).bind fun y => (cmpop op x.2 y.2).bind fun r => .ok (.frz, .bl r)
  | .chain o1 o2 a b c, env => (eval a env).bind fun x => (eval b env).bind fun y => (cmpop o1 x.2 y.2).bind fun r =>
      if r then (eval c env).bind fun z => (cmpop o2 y.2 z.2).bind fun r2 => .ok (.frz, .bl r2) else .ok (.frz, .bl false)
  | .isn a, env => (eval a env).bind fun x => .ok (.frz, .bl (isNon x.2))
  | .isnn a, env => (eval a env).bind fun x => .ok (.frz, .bl (!isNon x.2))
  | .ands es, env => evalAnds es env
  | .ors es, env => evalOrs es env
  | .ife c a b, env => (eval c env).bind fun x => (asB x.2).bind fun r => if r then eval a env else eval b env
  | .tup es, env => (evals es env).bind fun vs => (mapR esc vs).bind fun ds => if ds.length ≤ sizeL then .ok (.frz, .tup ds) else .no
  | .lst es, env => (evals es env).bind fun vs => (mapR esc vs).bind fun ds => if ds.length ≤ sizeL then .ok (.own, .lst ds) else .no
  | .call _ f es, env => (evals es env).bind fun vs => f (vs.map toArg)
  | .new _ _ f es, env => (evals es env).bind fun vs => f (vs.map toArg)
  | .meth C _ f o es, env => (eval o env).bind fun x => (asIns C x.2).bind fun _ => (evals es env).bind fun vs => f (toArg (pas x) :: vs.map toArg)
  | .prop C _ f o, env => (eval o env).bind fun x => (asIns C x.2).bind fun _ => noEx (f [toArg (pas x)])
  | .fld C j _ o, env => (eval o env).bind fun x => (asIns C x.2).bind fun fs => (R.ofOpt fs[j]?).bind fun d => .ok (.frz, d)
  | .bi b es, env => (evals es env).bind fun vs => biOp b (vs.map Prod.snd)
  | .isi o t, env => (eval o env).bind fun x => (R.ofOpt (ofTy x.2 t)).bind fun b => .ok (.frz, .bl b)
  | .xfld i _ tab, env => (getX env i).bind fun x => (R.ofOpt (tab.lookup x.1)).bind fun j => (R.ofOpt x.2[j]?).bind fun d => .ok (.frz, d)
  | .xis i _ _ tab, env => (getX env i).bind fun x => (R.ofOpt (tab.lookup x.1)).bind fun b => .ok (.frz, .bl b)
  | .ix o i, env => (eval o env).bind fun x => (eval i env).bind fun y => (ixOp x.2 y.2).bind fun d => .ok (.frz, d)
  | .slc o lo hi, env => (eval o env).bind fun x => (evalOpt lo env).bind fun l => (evalOpt hi env).bind fun h => sliceOp x.2 l h
  | .lc elt tgt sk src ifs own, env => (evals src env).bind fun vs => (srcItems sk (vs.map Prod.snd)).bind fun items =>
      (lcLoop (fun d => bindT tgt d (wipeE env own)) (fun e => noEx (evalIfs ifs e)) (fun e => noEx ((eval elt e).bind fun v => esc v)) items).bind fun ds =>
        if ds.length ≤ sizeL then .ok (.own, .lst ds) else .no
  | .newK _ _ f es _ ks, env => (evals es env).bind fun vs => (evals ks env).bind fun ws => f (vs.map toArg ++ ws.map toArg)
  | .dnew, _ => .ok (.own, .dct [] [])
  | .disp k v, env => (noEx (eval k env)).bind fun x => (esc (pas x)).bind fun kd => (noEx (eval v env)).bind fun y => (esc (pas y)).bind fun vd => if kd.keyOk then .ok (.own, .dct [kd] [vd]) else .no
  | .mrg a b, env => (eval a env).bind fun x => (eval b env).bind fun y => match x.2, y.2 with
      | .dct ks vs, .dct ks' vs' => if ks.length + ks'.length ≤ sizeL then .ok (.own, .dct (dPuts ks vs ks' vs').1 (dPuts ks vs ks' vs').2) else .no
      | _, _ => .no
  | .dc k v tgt sk src own, env => (evals src env).bind fun vs => (srcItems sk (vs.map Prod.snd)).bind fun items =>
      (dcLoop (fun d => bindT tgt d (wipeE env own)) (fun e => noEx ((eval k e).bind fun v => esc v)) (fun e => noEx ((eval v e).bind fun v => esc v)) items [] []).bind fun kv => .ok (.own, .dct kv.1 kv.2)
  | .sset elt tgt sk src own, env => (evals src env).bind fun vs => (srcItems sk (vs.map Prod.snd)).bind fun items =>
      (lcLoop (fun d => bindT tgt d (wipeE env own)) (fun _ => .ok true) (fun e => noEx ((eval elt e).bind fun v => esc v)) items).bind fun ds =>
        (R.ofOpt (intsOf ds)).bind fun ns => if ns.length ≤ sizeL then .ok (.own, .lst ((sortI ns).map D.int)) else .no
  | .stl tp bs es, env => (evalStl bs es env).bind fun ds => if ds.length ≤ sizeL then (if tp then .ok (.frz, .tup ds) else .ok (.own, .lst ds)) else .no
  | .srev o, env => (eval o env).bind fun x => (asLst x.2).bind fun xs => .ok (.own, .lst xs.reverse)
def evalStl : List Bool → List E → Env → R (List D)
  | [], [], _ => .ok []
  | true :: bs, e :: es, env => (eval e env).bind fun v => (seqItems v.2).bind fun xs => (evalStl bs es env).bind fun ys => .ok (xs ++ ys)
  | false :: bs, e :: es, env => (eval e env).bind fun v => (esc (pas v)).bind fun x => (evalStl bs es env).bind fun ys => .ok (x :: ys)
  | _, _, _ => .no
def evals : List E → Env → R (List Val)
  | [], _ => .ok []
  | e :: es, env => (eval e env).bind fun v => (evals es env).bind fun vs => .ok (pas v :: vs)
def evalAnds : List E → Env → R Val
  | [], _ => .no
  | e :: es, env => match es with
    | [] => (eval e env).bind fun x => (asB x.2).bind fun b => .ok (.frz, .bl b)
    | _ :: _ => (eval e env).bind fun x => (asB x.2).bind fun b => if b then evalAnds es env else .ok (.frz, .bl false)
def evalOrs : List E → Env → R Val
  | [], _ => .no
  | e :: es, env => match es with
    | [] => (eval e env).bind fun x => (asB x.2).bind fun b => .ok (.frz, .bl b)
    | _ :: _ => (eval e env).bind fun x => (asB x.2).bind fun b => if b then .ok (.frz, .bl true) else evalOrs es env
def evalOpt : List E → Env → R (Option Int)
  | [], _ => .ok none
  | e :: _, env => (eval e env).bind fun x => (asInt x.2).bind fun i => .ok (some i)
def evalIfs : List E → Env → R Bool
  | [], _ => .ok true
  | e :: es, env => (eval e env).bind fun x => (asB x.2).bind fun b => match es with
    | [] => .ok b
    | _ :: _ => .no
end

/-! ### statements -/
inductive S where
  | set (i : Nat) (fz : Bool) (e : E)
  | setT (t : T) (e : E)
  | setI (i : Nat) (k e : E)
  | setF (i C j : Nat) (m : Str) (e : E)
  | app (i : Nat) (e : E)
  | ext (i : Nat) (e : E)
  | ex (e : E)
  | iff (c : E) (a b : List S)
  | for_ (t : T) (sk : SK) (src : List E) (body : List S) (fg : List Nat)
  | whl (c : E) (body : List S) (fg : List Nat)
  | ret (e : E)
  | retV (i : Nat)
  | retN
  | rse (x : Str) (C : Nat) (es : List E)
  | rsT (x : Str) (C : Nat) (t : Str)
  | brk
  | cnt
  | pass
  | tryA (body : List S) (x : Str) (C : Nat) (tab : List (Nat × Bool)) (i : Nat) (suite : List S)
  | tryO (body : List S) (x : Str) (C : Nat) (tab : List (Nat × Bool)) (suite : List S)
  | mov (i j : Nat)
  | fz (is : List Nat)
  | fg (is : List Nat)

inductive Out where
  | nx (env : Env)
  | rt (v : Val)
  | bk (env : Env)
  | ct (env : Env)
  | ex (C : Nat) (fs : List D) (env : Env)
  | no

def ofR {α : Type} (env : Env) (r : R α) (k : α → Out) : Out := match r with
  | .ok a => k a
  | .ex C fs => .ex C fs env
  | .no => .no
@[simp] theorem ofR_ok {α : Type} (env : Env) (a : α) (k : α → Out) : ofR env (.ok a) k = k a := id rfl
@[simp] theorem ofR_ex {α : Type} (env : Env) (C : Nat) (fs : List D) (k : α → Out) : ofR env (.ex C fs) k = .ex C fs env := id rfl
@[simp] theorem ofR_no {α : Type} (env : Env) (k : α → Out) : ofR env (R.no : R α) k = .no := id rfl

/-- an own slot's value -/
def ownS (env : Env) (i : Nat) : R D := match env[i]? with
  | some (some (.own, d)) => .ok d
  | _ => .no
/-- an own slot's list -/
def ownL (env : Env) (i : Nat) : R (List D) := match env[i]? with
  | some (some (.own, .lst xs)) => .ok xs
  | _ => .no
def isObjD : D → Bool
  | .lst _ => true
  | .dct _ _ => true
  | .st _ => true
  | .ins _ _ => true
  | _ => false
/-- what a name gets: fresh things are its own, unless they are to be frozen; somebody else's own can't be kept -/
def keep (fz : Bool) : Val → R Val
  | (.frz, d) => .ok (.frz, d)
  | (.own, d) => .ok (if fz then .frz else .own, d)
  | (.bor, _) => .no
  | (.lnt, _) => .no
def setList (xs : List D) (i : Int) (d : D) : Option (List D) :=
  if 0 ≤ i then (if i.toNat < xs.length then some (xs.set i.toNat d) else none)
  else if 0 ≤ i + xs.length then some (xs.set (i + xs.length).toNat d) else none
def setItemD (o k d : D) : R D := match o, k with
  | .lst xs, .int i => (R.ofOpt (setList xs i d)).bind fun ys => .ok (.lst ys)
  | .dct ks vs, k => if k.keyOk && decide (ks.length < sizeL) then .ok (.dct (dPut ks vs k d).1 (dPut ks vs k d).2) else .no
  | _, _ => .no
def putField (fs : List D) (j : Nat) (d : D) : Option (List D) := if j < fs.length then some (fs.set j d) else if j = fs.length then some (fs ++ [d]) else none
def freeze (env : Env) : List Nat → Env
  | [] => env
  | i :: r => match (freeze env r)[i]? with
    | some (some (.own, d)) => (freeze env r).set i (some (.frz, d))
    | _ => freeze env r

/-- for: the items one by one -/
def forLoop (bindf : D → Env → R Env) (body : Env → Out) (fg : List Nat) : List D → Env → Out
  | [], env => .nx env
  | d :: r, env => match bindf d env with
    | .ok env1 => match body env1 with
      | .nx env2 => forLoop bindf body fg r (wipeE env2 fg)
      | .ct env2 => forLoop bindf body fg r (wipeE env2 fg)
      | .bk env2 => .nx env2
      | .rt v => .rt v
      | .ex C fs env2 => .ex C fs env2
      | .no => .no
    | _ => .no
/-- while, some turns deep; none: not yet at the end -/
def whileN (c : Env → R Bool) (body : Env → Out) (fg : List Nat) : Nat → Env → Option Out
  | 0, _ => none
  | n + 1, env => match c env with
    | .ok true => match body env with
      | .nx env2 => whileN c body fg n (wipeE env2 fg)
      | .ct env2 => whileN c body fg n (wipeE env2 fg)
      | .bk env2 => some (.nx env2)
      | .rt v => some (.rt v)
      | .ex C fs env2 => some (.ex C fs env2)
      | .no => some .no
    | .ok false => some (.nx env)
    | .ex C fs => some (.ex C fs env)
    | .no => some .no
open Classical in
noncomputable def whileLoop (c : Env → R Bool) (body : Env → Out) (fg : List Nat) (env : Env) : Out :=
  if h : ∃ n o, whileN c body fg n env = some o then Classical.choose (Classical.choose_spec h) else .no

/-- the end of a try: the handler's outcome, its name gone -/
def goneO (i : Nat) : Out → Out
  | .nx env => .nx (env.set i none)
  | .bk env => .bk (env.set i none)
  | .ct env => .ct (env.set i none)
  | .rt v => .rt v
  | .ex C fs env => .no
  | .no => .no
/-- an exception is caught or let go -/
def catchO (tab : List (Nat × Bool)) (o : Out) (k : Nat → List D → Env → Out) : Out := match o with
  | .ex C fs env => match tab.lookup C with
    | some true => k C fs env
    | some false => .ex C fs env
    | none => .no
  | o => o
def noExO : Out → Out
  | .ex _ _ _ => .no
  | o => o
def goOn (o : Out) (k : Env → Out) : Out := match o with
  | .nx env => k env
  | .rt v => .rt v
  | .bk env => .bk env
  | .ct env => .ct env
  | .ex C fs env => .ex C fs env
  | .no => .no
@[simp] theorem goOn_nx (env : Env) (k : Env → Out) : goOn (.nx env) k = k env := id rfl
@[simp] theorem goOn_rt (v : Val) (k : Env → Out) : goOn (.rt v) k = .rt v := id rfl
@[simp] theorem goOn_bk (env : Env) (k : Env → Out) : goOn (.bk env) k = .bk env := id rfl
@[simp] theorem goOn_ct (env : Env) (k : Env → Out) : goOn (.ct env) k = .ct env := id rfl
@[simp] theorem goOn_ex (C : Nat) (fs : List D) (env : Env) (k : Env → Out) : goOn (.ex C fs env) k = .ex C fs env := id rfl
@[simp] theorem goOn_no (k : Env → Out) : goOn .no k = .no := id rfl

mutual
noncomputable def exec : S → Env → Out
  | .set i fz e, env => ofR env ((eval e env).bind (keep fz)) fun v => .nx (setS env i v)
  | .setT t e, env => ofR env ((eval e env).bind esc) fun d => ofR env (noEx (bindT t d env)) fun env1 => .nx env1
  | .setI i k e, env => ofR env ((eval e env).bind esc) fun d => ofR env (noEx (ownS env i)) fun o => ofR env (eval k env) fun kv => ofR env (noEx (setItemD o kv.2 d)) fun o' => .nx (setS env i (.own, o'))
  | .setF i C j _ e, env => ofR env ((eval e env).bind esc) fun d => ofR env (noEx (ownS env i)) fun o => ofR env (noEx (asIns C o)) fun fs => ofR env (R.ofOpt (putField fs j d)) fun fs' => .nx (setS env i (.own, .ins C fs'))
  | .app i e, env => ofR env (ownL env i) fun xs => ofR env ((eval e env).bind esc) fun d => if xs.length < sizeL then .nx (setS env i (.own, .lst (xs ++ [d]))) else .no
  | .ext i e, env => ofR env (ownL env i) fun xs => ofR env (eval e env) fun v => ofR env (asLst v.2) fun ys => if xs.length + ys.length ≤ sizeL then .nx (setS env i (.own, .lst (xs ++ ys))) else .no
  | .ex e, env => ofR env (eval e env) fun _ => .nx env
  | .iff c a b, env => ofR env ((eval c env).bind fun x => asB x.2) fun r => if r then execs a env else execs b env
  | .for_ t sk src body fg, env => ofR env ((evals src env).bind fun vs => (mapR noLnt vs).bind fun ds => srcItems sk ds) fun items => forLoop (fun d env => bindT t d env) (fun env => execs body env) fg items (wipeE env fg)
  | .whl c body fg, env => whileLoop (fun env => (eval c env).bind fun x => asB x.2) (fun env => execs body env) fg (wipeE env fg)
  | .ret e, env => ofR env (eval e env) fun v => if v.1 = .bor ∨ v.1 = .lnt then .no else .rt v
  | .retV i, env => match env[i]? with
    | some (some (.own, d)) => .rt (.own, d)
    | _ => .no
  | .retN, _ => .rt (.frz, .non)
  | .rse _ C es, env => ofR env ((evals es env).bind fun vs => mapR esc vs) fun ds => .ex C ds env
  | .rsT _ C _, env => .ex C [] env
  | .brk, env => .bk env
  | .cnt, env => .ct env
  | .pass, env => .nx env
  | .mov i j, env => match env[j]? with
    | some (some (.own, d)) => .nx (setS (env.set j none) i (.own, d))
    | _ => .no
  | .tryA body _ _ tab i suite, env => catchO tab (execs body env) fun C fs env1 => goneO i (execs suite (setS env1 i (.frz, .exc C fs)))
  | .tryO body _ _ tab suite, env => catchO tab (execs body env) fun _ _ env1 => noExO (execs suite env1)
  | .fz is, env => .nx (freeze env is)
  | .fg is, env => .nx (wipeE env is)
noncomputable def execs : List S → Env → Out
  | [], env => .nx env
  | s :: ss, env => goOn (exec s env) fun env1 => execs ss env1
end

/-- a def: np parameters, n slots, the parameters first -/
noncomputable def runDef (np n : Nat) (body : List S) : Sem' := fun vs => if vs.length = np then
    match execs body (vs.map (fun v => some (toArg v)) ++ List.replicate (n - vs.length) none) with
    | .nx _ => .ok (.frz, .non)
    | .rt v => .ok v
    | .ex C fs _ => .ex C fs
    | _ => .no
  else .no
/-- __init__ of the class C: slot 0 is the new instance -/
noncomputable def runInit (C np n : Nat) (body : List S) : Sem' := fun vs => if vs.length + 1 = np then
    match execs body (some (.own, .ins C []) :: vs.map (fun v => some (toArg v)) ++ List.replicate (n - (vs.length + 1)) none) with
    | .nx env => (noEx (ownS env 0)).bind fun d => (asIns C d).bind fun fs => .ok (.own, .ins C fs)
    | .ex C fs _ => .ex C fs
    | _ => .no
  else .no
end Fx

/-! How the value language stands for the heap. -/
namespace Fx
open PySem PySem.Spec PyProof.Rows L2

/-- the classes of a text: their places, the names of their attributes -/
structure Tab where
  ca : Nat → Addr
  cf : Nat → List Str
  xa : Nat → Addr
  xf : Nat → List Str
  wd : World
mutual
/-- data as a dict's key -/
def keyOf : D → NestedKey
  | .non => .none
  | .bl b => .num (if b then 1 else 0)
  | .int i => .num i
  | .str s => .text s
  | .tup xs => .tup (keysOf xs)
  | .lst _ => .none
  | .dct _ _ => .none
  | .st _ => .none
  | .scr _ => .none
  | .ins _ _ => .none
  | .exc _ _ => .none
def keysOf : List D → List NestedKey
  | [] => []
  | x :: xs => keyOf x :: keysOf xs
end
/-- a dict's rows: the key's hash, the key, the value -/
def dEs (w : World) : List D → List V → List V → List (Int × V × V)
  | k :: ks, a :: as, b :: bs => ((keyOf k).hash w, a, b) :: dEs w ks as bs
  | _, _, _ => []
/-- one row and the object's own -/
def RowOk (e : Int × V × V) (x : DictEntry) : Prop := x.hash = e.1 ∧ L2.RelV e.2.1 x.key ∧ L2.RelV e.2.2 x.val
/-- at a stands a dict of these rows -/
def DictAt (h : Heap) (a : Addr) (ep : Nat) (es : List (Int × V × V)) : Prop :=
  (a == sysModules) = false ∧ es.length ≤ sizeLine ∧ ∃ o en, h.get? a = some o ∧ o.ExactDict ∧ o.data = .dict en ep ∧ Paired RowOk es en.toList
def dictHO (a : Addr) (ep : Nat) (es : List (Int × V × V)) : HO := .ext fun h => DictAt h a ep es
/-- the keys of a dict: keys, no two alike -/
def DOk (ks ds : List D) : Prop := (ks.map keyOf).Nodup ∧ ks.all D.keyOk = true ∧ ks.length = ds.length

section
variable (K : PySem.W.Frag) (g : Tab)
mutual
/-- v is d, in the part F of the heap that does not change -/
def Rep (F : Hp) : D → V → Prop
  | .non, v => v = .non
  | .bl b, v => v = .bl b
  | .int i, v => v = .int i
  | .str s, v => v = .str s
  | .tup xs, v => ∃ a vs, v = .ref a ∧ SqT K F a vs ∧ RepL F xs vs
  | .lst xs, v => ∃ a vs, v = .ref a ∧ F a = some (.lst vs) ∧ RepL F xs vs
  | .ins C fs, v => ∃ a dx vs, v = .ref a ∧ F a = some (.ins (g.ca C) dx ((g.cf C).zip vs)) ∧ RepL F fs vs
  | .scr ns, v => ∃ a, v = .ref a ∧ SqL K F a (ns.map V.int)
  | .dct ks ds, v => ∃ a ep kvs vvs, v = .ref a ∧ F a = some (dictHO a ep (dEs g.wd ks kvs vvs)) ∧ RepL F ks kvs ∧ RepL F ds vvs ∧ DOk ks ds
  | .st _, _ => False
  | .exc _ _, _ => False
def RepL (F : Hp) : List D → List V → Prop
  | [], vs => vs = []
  | d :: ds, vs => ∃ v r, vs = v :: r ∧ Rep F d v ∧ RepL F ds r
end
end

/-- the heap has grown: what stood stands; what is frozen anew is new -/
structure Ext (F H F' H' : Hp) : Prop where
  hh : ∀ a o, H a = some o → H' a = some o
  ff : ∀ a o, F a = some o → F' a = some o
  new : ∀ a o, F' a = some o → F a = some o ∨ H a = none
  sub : ∀ a o, F' a = some o → H' a = some o

section
variable {K : PySem.W.Frag} {g : Tab} {F H F1 H1 F2 H2 F' H' F0 H0 : Hp}

theorem Ext.refl (h : ∀ a o, F a = some o → H a = some o) : Ext F H F H := ⟨fun _ _ q => q, fun _ _ q => q, fun _ _ q => .inl q, h⟩
theorem Ext.trans (a : Ext F H F1 H1) (b : Ext F1 H1 F2 H2) : Ext F H F2 H2 := by
  refine ⟨fun x o q => b.hh x o (a.hh x o q), fun x o q => b.ff x o (a.ff x o q), fun x o q => ?_, b.sub⟩
  rcases b.new x o q with z | z
  · exact a.new x o z
  · right
    cases e : H x with
    | none => rfl
    | some u =>
      rw [a.hh x u e] at z
      cases z
theorem Ext.free (a : Ext F H F1 H1) {p : Addr} (h : H1 p = none) : H p = none := by
  cases e : H p with
  | none => rfl
  | some u =>
    rw [a.hh p u e] at h
    cases h
/-- what was there and not frozen is not frozen -/
theorem Ext.unf (a : Ext F H F1 H1) {p : Addr} {o : HO} (h : H p = some o) (hf : F p = none) : F1 p = none := by
  cases e : F1 p with
  | none => rfl
  | some u =>
    rcases a.new p u e with z | z
    · rw [hf] at z; cases z
    · rw [h] at z; cases z
/-- a new object, not frozen -/
theorem Ext.laid (a : Ext F H F1 H1) {p : Addr} {o : HO} (h : H1 p = none) : Ext F H F1 (upd H1 p o) := by
  refine ⟨fun x u q => ?_, a.ff, a.new, fun x u q => ?_⟩
  · rw [upd_ne (ne_of_none (a.hh x u q) h)]; exact a.hh x u q
  · rw [upd_ne (ne_of_none (a.sub x u q) h)]; exact a.sub x u q
/-- a new object, frozen -/
theorem Ext.laidF (a : Ext F H F1 H1) {p : Addr} {o : HO} (h : H1 p = none) : Ext F H (upd F1 p o) (upd H1 p o) := by
  have hf : F1 p = none := by
    cases e : F1 p with
    | none => rfl
    | some u => rw [a.sub p u e] at h; cases h
  refine ⟨fun x u q => ?_, fun x u q => ?_, fun x u q => ?_, fun x u q => ?_⟩
  · rw [upd_ne (ne_of_none (a.hh x u q) h)]; exact a.hh x u q
  · rw [upd_ne (ne_of_none (a.ff x u q) hf)]; exact a.ff x u q
  · by_cases e : x = p
    · subst e; exact .inr (a.free h)
    · rw [upd_ne e] at q; exact a.new x u q
  · by_cases e : x = p
    · subst e; rw [upd_same] at q ⊢; exact q
    · rw [upd_ne e] at q ⊢; exact a.sub x u q
/-- an object that is there is frozen -/
theorem Ext.freeze (a : Ext F H F1 H1) {p : Addr} {o : HO} (h : H1 p = some o) (hn : H p = none) (hf : F1 p = none) : Ext F H (upd F1 p o) H1 := by
  refine ⟨a.hh, fun x u q => ?_, fun x u q => ?_, fun x u q => ?_⟩
  · rw [upd_ne (ne_of_none (a.ff x u q) hf)]; exact a.ff x u q
  · by_cases e : x = p
    · subst e; exact .inr hn
    · rw [upd_ne e] at q; exact a.new x u q
  · by_cases e : x = p
    · subst e; rw [upd_same] at q; rw [← q]; exact h
    · rw [upd_ne e] at q; exact a.sub x u q
/-- an own object is written -/
theorem Ext.write (a : Ext F H F1 H1) {p : Addr} {o : HO} (hn : H p = none) (hf : F1 p = none) : Ext F H F1 (upd H1 p o) := by
  refine ⟨fun x u q => ?_, a.ff, a.new, fun x u q => ?_⟩
  · rw [upd_ne (ne_of_none q hn)]; exact a.hh x u q
  · rw [upd_ne (ne_of_none q hf)]; exact a.sub x u q

theorem SqT.mono {a : Addr} {xs : List V} (s : ∀ a o, F a = some o → F' a = some o) (h : SqT K F a xs) : SqT K F' a xs := by
  rcases h with (h | ⟨o, h⟩) | h
  · exact .inl (.inl (s _ _ h))
  · exact .inl (.inr ⟨o, s _ _ h⟩)
  · exact .inr h
theorem SqL.mono {a : Addr} {xs : List V} (s : ∀ a o, F a = some o → F' a = some o) (h : SqL K F a xs) : SqL K F' a xs := by
  rcases h with (h | ⟨o, h⟩) | h
  · exact .inl (.inl (s _ _ h))
  · exact .inl (.inr ⟨o, s _ _ h⟩)
  · exact .inr h
mutual
theorem Rep.mono (s : ∀ a o, F a = some o → F' a = some o) : ∀ (d : D) (v : V), Rep K g F d v → Rep K g F' d v
  | .non, v, h => by simp only [Rep] at h ⊢; exact h
  | .bl b, v, h => by simp only [Rep] at h ⊢; exact h
  | .int i, v, h => by simp only [Rep] at h ⊢; exact h
  | .str x, v, h => by simp only [Rep] at h ⊢; exact h
  | .tup xs, v, h => by
    simp only [Rep] at h ⊢
    obtain ⟨a, vs, e, q, r⟩ := h
    exact ⟨a, vs, e, SqT.mono s q, RepL.mono s xs vs r⟩
  | .lst xs, v, h => by
    simp only [Rep] at h ⊢
    obtain ⟨a, vs, e, q, r⟩ := h
    exact ⟨a, vs, e, s _ _ q, RepL.mono s xs vs r⟩
  | .ins C fs, v, h => by
    simp only [Rep] at h ⊢
    obtain ⟨a, dx, vs, e, q, r⟩ := h
    exact ⟨a, dx, vs, e, s _ _ q, RepL.mono s fs vs r⟩
  | .scr ns, v, h => by
    simp only [Rep] at h ⊢
    obtain ⟨a, e, q⟩ := h
    exact ⟨a, e, SqL.mono s q⟩
  | .dct ks ds, v, h => by
    simp only [Rep] at h ⊢
    obtain ⟨a, ep, kvs, vvs, e, q, r, t, o⟩ := h
    exact ⟨a, ep, kvs, vvs, e, s _ _ q, RepL.mono s ks kvs r, RepL.mono s ds vvs t, o⟩
  | .st _, v, h => by simp only [Rep] at h
  | .exc _ _, v, h => by simp only [Rep] at h
theorem RepL.mono (s : ∀ a o, F a = some o → F' a = some o) : ∀ (ds : List D) (vs : List V), RepL K g F ds vs → RepL K g F' ds vs
  | [], vs, h => by simp only [RepL] at h ⊢; exact h
  | d :: ds, vs, h => by
    simp only [RepL] at h ⊢
    obtain ⟨v, r, e, h1, h2⟩ := h
    exact ⟨v, r, e, Rep.mono s d v h1, RepL.mono s ds r h2⟩
end
theorem RepL.nil : RepL K g F [] [] := by simp only [RepL]
theorem RepL.cons {d : D} {ds : List D} {v : V} {vs : List V} (h : Rep K g F d v) (t : RepL K g F ds vs) : RepL K g F (d :: ds) (v :: vs) := by
  simp only [RepL]; exact ⟨v, vs, rfl, h, t⟩
theorem RepL.inv {d : D} {ds : List D} {vs : List V} (h : RepL K g F (d :: ds) vs) : ∃ v r, vs = v :: r ∧ Rep K g F d v ∧ RepL K g F ds r := by
  simp only [RepL] at h; exact h
theorem RepL.inv0 {vs : List V} (h : RepL K g F [] vs) : vs = [] := by
  simp only [RepL] at h; exact h
theorem RepL.length : ∀ {ds : List D} {vs : List V}, RepL K g F ds vs → vs.length = ds.length
  | [], vs, h => by rw [h.inv0]; rfl
  | d :: ds, vs, h => by
    obtain ⟨v, r, rfl, _, h2⟩ := h.inv
    simp [RepL.length h2]
theorem RepL.get : ∀ {ds : List D} {vs : List V} {i : Nat} {d : D}, RepL K g F ds vs → ds[i]? = some d → ∃ v, vs[i]? = some v ∧ Rep K g F d v
  | [], _, _, _, _, e => by simp at e
  | d :: ds, vs, 0, d', h, e => by
    obtain ⟨v, r, rfl, h1, _⟩ := h.inv
    simp at e; subst e
    exact ⟨v, rfl, h1⟩
  | d :: ds, vs, i + 1, d', h, e => by
    obtain ⟨v, r, rfl, _, h2⟩ := h.inv
    obtain ⟨w, h3, h4⟩ := RepL.get (i := i) h2 (by simpa using e)
    exact ⟨w, by simpa using h3, h4⟩
theorem RepL.append : ∀ {ds es : List D} {vs ws : List V}, RepL K g F ds vs → RepL K g F es ws → RepL K g F (ds ++ es) (vs ++ ws)
  | [], es, vs, ws, h, t => by rw [h.inv0]; exact t
  | d :: ds, es, vs, ws, h, t => by
    obtain ⟨v, r, rfl, h1, h2⟩ := h.inv
    exact .cons h1 (RepL.append h2 t)
theorem RepL.take : ∀ {ds : List D} {vs : List V} (n : Nat), RepL K g F ds vs → RepL K g F (ds.take n) (vs.take n)
  | _, _, 0, _ => by rw [List.take_zero, List.take_zero]; exact .nil
  | [], vs, n + 1, h => by rw [h.inv0]; exact .nil
  | d :: ds, vs, n + 1, h => by
    obtain ⟨v, r, rfl, h1, h2⟩ := h.inv
    exact .cons h1 (RepL.take n h2)
theorem RepL.drop : ∀ {ds : List D} {vs : List V} (n : Nat), RepL K g F ds vs → RepL K g F (ds.drop n) (vs.drop n)
  | _, _, 0, h => h
  | [], vs, n + 1, h => by rw [h.inv0]; exact .nil
  | d :: ds, vs, n + 1, h => by
    obtain ⟨v, r, rfl, h1, h2⟩ := h.inv
    exact RepL.drop n h2
theorem RepL.set : ∀ {ds : List D} {vs : List V} {d : D} {v : V} (i : Nat), RepL K g F ds vs → Rep K g F d v → RepL K g F (ds.set i d) (vs.set i v)
  | [], vs, _, _, i, h, _ => by rw [h.inv0]; exact .nil
  | d :: ds, vs, _, _, 0, h, q => by
    obtain ⟨w, r, rfl, h1, h2⟩ := h.inv
    exact .cons q h2
  | d :: ds, vs, _, _, i + 1, h, q => by
    obtain ⟨w, r, rfl, h1, h2⟩ := h.inv
    exact .cons h1 (RepL.set i h2 q)
theorem RepL.reverse : ∀ {ds : List D} {vs : List V}, RepL K g F ds vs → RepL K g F ds.reverse vs.reverse
  | [], vs, h => by rw [h.inv0]; exact .nil
  | d :: ds, vs, h => by
    obtain ⟨v, r, rfl, h1, h2⟩ := h.inv
    rw [List.reverse_cons, List.reverse_cons]
    exact RepL.append (RepL.reverse h2) (.cons h1 .nil)
theorem Rep.int {i : Int} {v : V} (h : Rep K g F (.int i) v) : v = .int i := by simp only [Rep] at h; exact h
theorem Rep.bl {b : Bool} {v : V} (h : Rep K g F (.bl b) v) : v = .bl b := by simp only [Rep] at h; exact h
theorem Rep.str {s : Str} {v : V} (h : Rep K g F (.str s) v) : v = .str s := by simp only [Rep] at h; exact h
theorem Rep.non {v : V} (h : Rep K g F .non v) : v = .non := by simp only [Rep] at h; exact h
theorem Rep.tup {xs : List D} {v : V} (h : Rep K g F (.tup xs) v) : ∃ a vs, v = .ref a ∧ SqT K F a vs ∧ RepL K g F xs vs := by simp only [Rep] at h; exact h
theorem Rep.lst {xs : List D} {v : V} (h : Rep K g F (.lst xs) v) : ∃ a vs, v = .ref a ∧ F a = some (.lst vs) ∧ RepL K g F xs vs := by simp only [Rep] at h; exact h
theorem Rep.ins {C : Nat} {fs : List D} {v : V} (h : Rep K g F (.ins C fs) v) : ∃ a dx vs, v = .ref a ∧ F a = some (.ins (g.ca C) dx ((g.cf C).zip vs)) ∧ RepL K g F fs vs := by simp only [Rep] at h; exact h
theorem Rep.scr {ns : List Int} {v : V} (h : Rep K g F (.scr ns) v) : ∃ a, v = .ref a ∧ SqL K F a (ns.map V.int) := by simp only [Rep] at h; exact h
theorem Rep.dct {ks ds : List D} {v : V} (h : Rep K g F (.dct ks ds) v) : ∃ a ep kvs vvs, v = .ref a ∧ F a = some (dictHO a ep (dEs g.wd ks kvs vvs)) ∧ RepL K g F ks kvs ∧ RepL K g F ds vvs ∧ DOk ks ds := by simp only [Rep] at h; exact h
theorem Rep.mkD {ks ds : List D} {a : Addr} {ep : Nat} {kvs vvs : List V} (h : F a = some (dictHO a ep (dEs g.wd ks kvs vvs))) (r : RepL K g F ks kvs) (t : RepL K g F ds vvs) (o : DOk ks ds) : Rep K g F (.dct ks ds) (.ref a) := by simp only [Rep]; exact ⟨a, ep, kvs, vvs, rfl, h, r, t, o⟩
theorem Rep.mkI (i : Int) : Rep K g F (.int i) (.int i) := by simp only [Rep]
theorem Rep.mkB (b : Bool) : Rep K g F (.bl b) (.bl b) := by simp only [Rep]
theorem Rep.mkS (s : Str) : Rep K g F (.str s) (.str s) := by simp only [Rep]
theorem Rep.mkN : Rep K g F .non .non := by simp only [Rep]
theorem Rep.mkT {xs : List D} {a : Addr} {vs : List V} (h : SqT K F a vs) (r : RepL K g F xs vs) : Rep K g F (.tup xs) (.ref a) := by simp only [Rep]; exact ⟨a, vs, rfl, h, r⟩
theorem Rep.mkL {xs : List D} {a : Addr} {vs : List V} (h : F a = some (.lst vs)) (r : RepL K g F xs vs) : Rep K g F (.lst xs) (.ref a) := by simp only [Rep]; exact ⟨a, vs, rfl, h, r⟩
theorem Rep.mkC {C : Nat} {fs : List D} {a dx : Addr} {vs : List V} (h : F a = some (.ins (g.ca C) dx ((g.cf C).zip vs))) (r : RepL K g F fs vs) : Rep K g F (.ins C fs) (.ref a) := by simp only [Rep]; exact ⟨a, dx, vs, rfl, h, r⟩

/-- at p stands d, its parts frozen -/
def OwnAt (K : PySem.W.Frag) (g : Tab) (F H : Hp) (p : Addr) : D → Prop
  | .lst xs => ∃ vs, H p = some (.lst vs) ∧ RepL K g F xs vs
  | .ins C fs => ∃ dx vs, H p = some (.ins (g.ca C) dx ((g.cf C).zip vs)) ∧ RepL K g F fs vs
  | .dct ks ds => ∃ ep kvs vvs, H p = some (dictHO p ep (dEs g.wd ks kvs vvs)) ∧ RepL K g F ks kvs ∧ RepL K g F ds vvs ∧ DOk ks ds
  | _ => False
theorem OwnAt.mono {p : Addr} {d : D} (h : OwnAt K g F H p d) (sf : ∀ a o, F a = some o → F' a = some o) (sh : ∀ o, H p = some o → H' p = some o) : OwnAt K g F' H' p d := by
  cases d with
  | lst xs => obtain ⟨vs, e, r⟩ := h; exact ⟨vs, sh _ e, RepL.mono sf xs vs r⟩
  | ins C fs => obtain ⟨dx, vs, e, r⟩ := h; exact ⟨dx, vs, sh _ e, RepL.mono sf fs vs r⟩
  | dct ks ds => obtain ⟨ep, kvs, vvs, e, r, t, o⟩ := h; exact ⟨ep, kvs, vvs, sh _ e, RepL.mono sf _ _ r, RepL.mono sf _ _ t, o⟩
  | _ => exact h.elim
theorem OwnAt.there {p : Addr} {d : D} (h : OwnAt K g F H p d) : ∃ o, H p = some o := by
  cases d with
  | lst xs => obtain ⟨vs, e, r⟩ := h; exact ⟨_, e⟩
  | ins C fs => obtain ⟨dx, vs, e, r⟩ := h; exact ⟨_, e⟩
  | dct ks ds => obtain ⟨ep, kvs, vvs, e, _⟩ := h; exact ⟨_, e⟩
  | _ => exact h.elim
/-- frozen where it stands -/
theorem OwnAt.rep {p : Addr} {d : D} {o : HO} (h : OwnAt K g F H p d) (e : H p = some o) (hf : F p = none) : Rep K g (upd F p o) d (.ref p) := by
  have sf : ∀ a u, F a = some u → upd F p o a = some u := fun a u q => by rw [upd_ne (ne_of_none q hf)]; exact q
  cases d with
  | lst xs =>
    obtain ⟨vs, e', r⟩ := h
    rw [e] at e'; cases e'
    exact Rep.mkL upd_same (RepL.mono sf xs vs r)
  | ins C fs =>
    obtain ⟨dx, vs, e', r⟩ := h
    rw [e] at e'; cases e'
    exact Rep.mkC upd_same (RepL.mono sf fs vs r)
  | dct ks ds =>
    obtain ⟨ep, kvs, vvs, e', r, t, k⟩ := h
    rw [e] at e'; cases e'
    exact Rep.mkD upd_same (RepL.mono sf _ _ r) (RepL.mono sf _ _ t) k
  | _ => exact h.elim

/-- a result at v: from F, H to F', H' -/
def VRep (K : PySem.W.Frag) (g : Tab) (H0 H F' H' : Hp) (mv : Val) (v : V) : Prop :=
  match mv.1 with
  | .frz => Rep K g F' mv.2 v
  | .own => ∃ p, v = .ref p ∧ H p = none ∧ F' p = none ∧ OwnAt K g F' H' p mv.2
  | .bor => ∃ p, v = .ref p ∧ H0 p ≠ none ∧ OwnAt K g F' H' p mv.2
  | .lnt => ∃ p, v = .ref p ∧ OwnAt K g F' H' p mv.2
theorem VRep.start {mv : Val} {v : V} (a : Ext F H F1 H1) (h : VRep K g H0 H1 F2 H2 mv v) : VRep K g H0 H F2 H2 mv v := by
  obtain ⟨m, d⟩ := mv
  cases m with
  | frz => exact h
  | own => obtain ⟨p, e, n, f, o⟩ := h; exact ⟨p, e, a.free n, f, o⟩
  | bor => exact h
  | lnt => exact h
theorem VRep.stop {mv : Val} {v : V} (h : VRep K g H0 H F1 H1 mv v) (b : Ext F1 H1 F2 H2) : VRep K g H0 H F2 H2 mv v := by
  obtain ⟨m, d⟩ := mv
  cases m with
  | frz => exact Rep.mono b.ff d v h
  | own =>
    obtain ⟨p, e, n, f, o⟩ := h
    obtain ⟨u, hu⟩ := o.there
    exact ⟨p, e, n, b.unf hu f, o.mono b.ff fun _ q => b.hh _ _ q⟩
  | bor => obtain ⟨p, e, z, o⟩ := h; exact ⟨p, e, z, o.mono b.ff fun _ q => b.hh _ _ q⟩
  | lnt => obtain ⟨p, e, o⟩ := h; exact ⟨p, e, o.mono b.ff fun _ q => b.hh _ _ q⟩
/-- a value to be read: frozen, or somebody's own -/
def RD (K : PySem.W.Frag) (g : Tab) (F H : Hp) (d : D) (v : V) : Prop := Rep K g F d v ∨ ∃ p, v = .ref p ∧ OwnAt K g F H p d
theorem RD.stop {d : D} {v : V} (h : RD K g F1 H1 d v) (b : Ext F1 H1 F2 H2) : RD K g F2 H2 d v := by
  rcases h with h | ⟨p, e, o⟩
  · exact .inl (Rep.mono b.ff d v h)
  · exact .inr ⟨p, e, o.mono b.ff fun _ q => b.hh _ _ q⟩
theorem RD.int {i : Int} {v : V} (h : RD K g F H (.int i) v) : v = .int i := by
  rcases h with h | ⟨p, e, o⟩
  · exact h.int
  · exact o.elim
theorem RD.bl {b : Bool} {v : V} (h : RD K g F H (.bl b) v) : v = .bl b := by
  rcases h with h | ⟨p, e, o⟩
  · exact h.bl
  · exact o.elim
theorem RD.str {s : Str} {v : V} (h : RD K g F H (.str s) v) : v = .str s := by
  rcases h with h | ⟨p, e, o⟩
  · exact h.str
  · exact o.elim
theorem RD.non {v : V} (h : RD K g F H .non v) : v = .non := by
  rcases h with h | ⟨p, e, o⟩
  · exact h.non
  · exact o.elim
theorem RD.tup {xs : List D} {v : V} (h : RD K g F H (.tup xs) v) (s : ∀ a o, F a = some o → H a = some o) : ∃ a vs, v = .ref a ∧ SqT K H a vs ∧ RepL K g F xs vs ∧ SqT K F a vs := by
  rcases h with h | ⟨p, e, o⟩
  · obtain ⟨a, vs, e, q, r⟩ := h.tup
    exact ⟨a, vs, e, SqT.mono s q, r, q⟩
  · exact o.elim
theorem RD.scr {ns : List Int} {v : V} (h : RD K g F H (.scr ns) v) (s : ∀ a o, F a = some o → H a = some o) : ∃ a, v = .ref a ∧ SqL K H a (ns.map V.int) := by
  rcases h with h | ⟨p, e, o⟩
  · obtain ⟨a, e, q⟩ := h.scr
    exact ⟨a, e, SqL.mono s q⟩
  · exact o.elim
theorem RD.lst {xs : List D} {v : V} (h : RD K g F H (.lst xs) v) (s : ∀ a o, F a = some o → H a = some o) : ∃ a vs, v = .ref a ∧ H a = some (.lst vs) ∧ RepL K g F xs vs := by
  rcases h with h | ⟨p, e, vs, q, r⟩
  · obtain ⟨a, vs, e, q, r⟩ := h.lst
    exact ⟨a, vs, e, s _ _ q, r⟩
  · exact ⟨p, vs, e, q, r⟩
theorem RD.dct {ks ds : List D} {v : V} (h : RD K g F H (.dct ks ds) v) (s : ∀ a o, F a = some o → H a = some o) : ∃ a ep kvs vvs, v = .ref a ∧ H a = some (dictHO a ep (dEs g.wd ks kvs vvs)) ∧ RepL K g F ks kvs ∧ RepL K g F ds vvs ∧ DOk ks ds := by
  rcases h with h | ⟨p, e, ep, kvs, vvs, q, r, t, o⟩
  · obtain ⟨a, ep, kvs, vvs, e, q, r⟩ := h.dct
    exact ⟨a, ep, kvs, vvs, e, s _ _ q, r⟩
  · exact ⟨p, ep, kvs, vvs, e, q, r, t, o⟩
theorem RD.ins {C : Nat} {fs : List D} {v : V} (h : RD K g F H (.ins C fs) v) (s : ∀ a o, F a = some o → H a = some o) : ∃ a dx vs, v = .ref a ∧ H a = some (.ins (g.ca C) dx ((g.cf C).zip vs)) ∧ RepL K g F fs vs := by
  rcases h with h | ⟨p, e, dx, vs, q, r⟩
  · obtain ⟨a, dx, vs, e, q, r⟩ := h.ins
    exact ⟨a, dx, vs, e, s _ _ q, r⟩
  · exact ⟨p, dx, vs, e, q, r⟩

/-- an argument: frozen, or lent -/
def ARep (K : PySem.W.Frag) (g : Tab) (H0 F H : Hp) (mv : Val) (v : V) : Prop := match mv.1 with
  | .frz => Rep K g F mv.2 v
  | .own => False
  | .bor => ∃ p, v = .ref p ∧ H0 p ≠ none ∧ OwnAt K g F H p mv.2
  | .lnt => ∃ p, v = .ref p ∧ OwnAt K g F H p mv.2
theorem ARep.stop {mv : Val} {v : V} (h : ARep K g H0 F1 H1 mv v) (b : Ext F1 H1 F2 H2) : ARep K g H0 F2 H2 mv v := by
  obtain ⟨m, d⟩ := mv
  cases m with
  | frz => exact Rep.mono b.ff d v h
  | own => exact h
  | bor => obtain ⟨p, e, z, o⟩ := h; exact ⟨p, e, z, o.mono b.ff fun _ q => b.hh _ _ q⟩
  | lnt => obtain ⟨p, e, o⟩ := h; exact ⟨p, e, o.mono b.ff fun _ q => b.hh _ _ q⟩
theorem ARep.rd {mv : Val} {v : V} (h : ARep K g H0 F H mv v) : RD K g F H mv.2 v := by
  obtain ⟨m, d⟩ := mv
  cases m with
  | frz => exact .inl h
  | own => exact h.elim
  | bor => obtain ⟨p, e, _, o⟩ := h; exact .inr ⟨p, e, o⟩
  | lnt => exact .inr h
theorem pas_snd (mv : Val) : (pas mv).2 = mv.2 := by
  obtain ⟨m, d⟩ := mv
  cases m <;> rfl
/-- a result is frozen, if it is fresh -/
theorem VRep.pas {mv : Val} {v : V} (a : Ext F H F1 H1) (h : VRep K g H0 H F1 H1 mv v) : ∃ F', Ext F H F' H1 ∧ ARep K g H0 F' H1 (pas mv) v := by
  obtain ⟨m, d'⟩ := mv
  cases m with
  | frz => exact ⟨F1, a, h⟩
  | own =>
    obtain ⟨p, rfl, n, f, o⟩ := h
    obtain ⟨u, hu⟩ := o.there
    exact ⟨_, a.freeze hu n f, o.rep hu f⟩
  | bor => exact ⟨F1, a, h⟩
  | lnt => exact ⟨F1, a, h⟩
/-- what may be kept -/
theorem ARep.esc {mv : Val} {v : V} {d : D} (h : ARep K g H0 F H (Fx.pas mv) v) (e : esc (Fx.pas mv) = .ok d) : Rep K g F d v := by
  obtain ⟨m, d'⟩ := mv
  cases m with
  | frz => cases e; exact h
  | own => cases e; exact h
  | bor => cases e
  | lnt => cases e
theorem ARep.arg {mv : Val} {v : V} (h : ARep K g H0 F H mv v) : ARep K g H F H (toArg mv) v := by
  obtain ⟨m, d'⟩ := mv
  cases m with
  | frz => exact h
  | own => exact h
  | bor =>
    obtain ⟨p, e, _, o⟩ := h
    obtain ⟨u, hu⟩ := o.there
    exact ⟨p, e, by rw [hu]; simp, o⟩
  | lnt =>
    obtain ⟨p, e, o⟩ := h
    obtain ⟨u, hu⟩ := o.there
    exact ⟨p, e, by rw [hu]; simp, o⟩
/-- a def's result: frozen, or fresh -/
def RRep (K : PySem.W.Frag) (g : Tab) (H F' H' : Hp) (mv : Val) (v : V) : Prop := match mv.1 with
  | .frz => Rep K g F' mv.2 v
  | .own => ∃ p, v = .ref p ∧ H p = none ∧ F' p = none ∧ OwnAt K g F' H' p mv.2
  | .bor => False
  | .lnt => False
theorem RRep.vrep {mv : Val} {v : V} (h : RRep K g H F' H' mv v) : VRep K g H0 H F' H' mv v := by
  obtain ⟨m, d'⟩ := mv
  cases m with
  | frz => exact h
  | own => exact h
  | bor => exact h.elim
  | lnt => exact h.elim

/-! ### the slots -/
/-- the exception at hand: its slot, place, class, fields, the fields' own place -/
structure XI where
  i : Nat
  a : Addr
  C : Nat
  fs : List D
  dx : Option Addr
/-- the exception that a suite holds; where the instance stands that __init__ makes -/
structure XO where
  x : Option XI
  pin : Option Addr
/-- an exception's fields -/
def XRep (K : PySem.W.Frag) (g : Tab) (H F' H' : Hp) (C : Nat) (fs : List D) (dx : Option Addr) : Prop :=
  match fs with
  | [] => dx = none
  | _ :: _ => ∃ d vs, dx = some d ∧ H d = none ∧ F' d = none ∧ H' d = some (.xd ((g.xf C).zip vs)) ∧ RepL K g F' fs vs
theorem XRep.start {C : Nat} {fs : List D} {dx : Option Addr} (a : Ext F H F1 H1) (h : XRep K g H1 F2 H2 C fs dx) : XRep K g H F2 H2 C fs dx := by
  cases fs with
  | nil => exact h
  | cons f r =>
    obtain ⟨d, vs, e, n, f', o, q⟩ := h
    exact ⟨d, vs, e, a.free n, f', o, q⟩
def SlotR (K : PySem.W.Frag) (g : Tab) (xo : XO) (H0 F H : Hp) (σ : L2.St) (i : Nat) (mv : Val) : Prop := match mv with
  | (.frz, d) => match d with
    | .exc C fs => ∃ x, xo.x = some x ∧ x.i = i ∧ x.C = C ∧ x.fs = fs ∧ σ[i]? = some (some (.ref x.a)) ∧ (∀ f r, fs = f :: r → ∃ dd vs, x.dx = some dd ∧ F dd = some (.xd ((g.xf C).zip vs)) ∧ RepL K g F fs vs)
    | d => ∃ v, σ[i]? = some (some v) ∧ Rep K g F d v
  | (.own, d) => ∃ p, σ[i]? = some (some (.ref p)) ∧ F p = none ∧ H0 p = none ∧ (i = 0 → ∀ a, xo.pin = some a → p = a) ∧ OwnAt K g F H p d
  | (.bor, d) => ∃ p, σ[i]? = some (some (.ref p)) ∧ H0 p ≠ none ∧ OwnAt K g F H p d
  | (.lnt, d) => False
structure FRel (K : PySem.W.Frag) (g : Tab) (xo : XO) (F0 H0 F H : Hp) (σ : L2.St) (env : Env) : Prop where
  ext : Ext F0 H0 F H
  len : σ.length = env.length
  slot : ∀ i mv, env[i]? = some (some mv) → SlotR K g xo H0 F H σ i mv
  sep : ∀ (i j : Nat) (d e : D) (p : Addr), i ≠ j → env[i]? = some (some (Mode.own, d)) → env[j]? = some (some (Mode.own, e)) → σ[i]? = some (some (V.ref p)) → σ[j]? = some (some (V.ref p)) → False

variable {xo : XO} {σ : L2.St} {env : Env}
theorem SlotR.frz {i : Nat} {d : D} {v : V} (hs : σ[i]? = some (some v)) (r : Rep K g F d v) : SlotR K g xo H0 F H σ i (.frz, d) := by
  cases d with
  | exc C fs => simp only [Rep] at r
  | _ => exact ⟨v, hs, r⟩
theorem SlotR.frz_inv {i : Nat} {d : D} (h : SlotR K g xo H0 F H σ i (.frz, d)) (hx : isExc d = false) : ∃ v, σ[i]? = some (some v) ∧ Rep K g F d v := by
  cases d with
  | exc C fs => cases hx
  | _ => exact h
theorem FRel.ext' (R : FRel K g xo F0 H0 F H σ env) (b : Ext F H F1 H1) : FRel K g xo F0 H0 F1 H1 σ env := by
  refine ⟨R.ext.trans b, R.len, fun i mv e => ?_, R.sep⟩
  have h := R.slot i mv e
  obtain ⟨m, d⟩ := mv
  cases m with
  | frz =>
    cases d with
    | exc C fs =>
      obtain ⟨x, e1, e2, e3, e4, e5, e6⟩ := h
      refine ⟨x, e1, e2, e3, e4, e5, fun f r q => ?_⟩
      obtain ⟨dd, vs, q1, q2, q3⟩ := e6 f r q
      exact ⟨dd, vs, q1, b.ff _ _ q2, RepL.mono b.ff _ _ q3⟩
    | _ =>
      obtain ⟨v, h1, h2⟩ := h
      exact ⟨v, h1, Rep.mono b.ff _ _ h2⟩
  | own =>
    obtain ⟨p, h1, h2, h3, hpn, h4⟩ := h
    obtain ⟨u, hu⟩ := h4.there
    exact ⟨p, h1, b.unf hu h2, h3, hpn, h4.mono b.ff fun _ q => b.hh _ _ q⟩
  | bor =>
    obtain ⟨p, h1, h2, h3⟩ := h
    exact ⟨p, h1, h2, h3.mono b.ff fun _ q => b.hh _ _ q⟩
  | lnt => exact h.elim
end
end Fx

/-! The walk of expressions. -/
namespace Fx
open PySem PySem.Spec PyProof.Rows L2

theorem _root_.L2.PE.imp {X : Cx} {e : Expr} {t t' : TE} (h : PE X e t) (i : ∀ σ H Q, t' σ H Q → t σ H Q) : PE X e t' := ⟨fun pins s σ H Q I q => h.run pins s σ H Q I (i σ H Q q)⟩
theorem _root_.L2.PT.imp {X : Cx} {e : Expr} {t t' : TT} (h : PT X e t) (i : ∀ σ H Q, t' σ H Q → t σ H Q) : PT X e t' := ⟨fun pins s σ H Q I q => h.run pins s σ H Q I (i σ H Q q)⟩
theorem _root_.L2.PW.imp {X : Cx} {e : Expr} {t t' : TT} (h : PW X e t) (i : ∀ σ H Q, t' σ H Q → t σ H Q) : PW X e t' := ⟨fun wh pins s σ H Q I q => h.run wh pins s σ H Q I (i σ H Q q)⟩
theorem _root_.L2.PA.imp {X : Cx} {e : List Expr} {t t' : TA} (h : PA X e t) (i : ∀ σ H Q, t' σ H Q → t σ H Q) : PA X e t' := ⟨fun pos pins s σ H Q I q => h.run pos pins s σ H Q I (i σ H Q q)⟩
theorem _root_.L2.PS.imp {X : Cx} {e : Stmt} {t t' : TS} (h : PS X e t) (i : ∀ D σ H, t' D σ H → t D σ H) : PS X e t' := ⟨fun pins s σ H D I q => h.run pins s σ H D I (i D σ H q)⟩
theorem _root_.L2.PSs.imp {X : Cx} {e : List Stmt} {t t' : TS} (h : PSs X e t) (i : ∀ D σ H, t' D σ H → t D σ H) : PSs X e t' := ⟨fun pins s σ H D I q => h.run pins s σ H D I (i D σ H q)⟩

section
variable {K : PySem.W.Frag} {g : Tab} {W : WX} {σ : L2.St} {H0 F H F1 H1 F' H' : Hp}

/-- what is wanted of an exception -/
def XP (K : PySem.W.Frag) (g : Tab) (W : WX) (σ : L2.St) (F H : Hp) (C : Nat) (fs : List D) : Prop :=
  ∀ dx F' H', Ext F H F' H' → XRep K g H F' H' C fs dx → W (.ref (g.xa C)) dx σ H'
def PostE (K : PySem.W.Frag) (g : Tab) (H0 : Hp) (W : WX) (σ : L2.St) (Q : VK) (F H : Hp) (r : R Val) : Prop := match r with
  | .ok mv => ∀ v F' H', Ext F H F' H' → VRep K g H0 H F' H' mv v → Q v H'
  | .ex C fs => XP K g W σ F H C fs
  | .no => False
def PostT (K : PySem.W.Frag) (g : Tab) (W : WX) (σ : L2.St) (Q : Bool → Hp → Prop) (F H : Hp) (r : R Bool) : Prop := match r with
  | .ok b => ∀ F' H', Ext F H F' H' → Q b H'
  | .ex C fs => XP K g W σ F H C fs
  | .no => False
inductive AReps (K : PySem.W.Frag) (g : Tab) (H0 F H : Hp) : List Val → List V → Prop where
  | nil : AReps K g H0 F H [] []
  | cons {mv : Val} {v : V} {mvs : List Val} {vs : List V} : ARep K g H0 F H mv v → AReps K g H0 F H mvs vs → AReps K g H0 F H (mv :: mvs) (v :: vs)
def PostA (K : PySem.W.Frag) (g : Tab) (H0 : Hp) (W : WX) (σ : L2.St) (Q : List V → Hp → Prop) (F H : Hp) (r : R (List Val)) : Prop := match r with
  | .ok mvs => ∀ vs F' H', Ext F H F' H' → AReps K g H0 F' H' mvs vs → Q vs H'
  | .ex C fs => XP K g W σ F H C fs
  | .no => False
theorem AReps.stop {mvs : List Val} {vs : List V} (h : AReps K g H0 F H mvs vs) (b : Ext F H F1 H1) : AReps K g H0 F1 H1 mvs vs := by
  induction h with
  | nil => exact .nil
  | cons h _ ih => exact .cons (h.stop b) ih
theorem AReps.arg {mvs : List Val} {vs : List V} (h : AReps K g H0 F H mvs vs) : AReps K g H F H (mvs.map toArg) vs := by
  induction h with
  | nil => exact .nil
  | cons h _ ih => exact .cons h.arg ih
theorem AReps.base {B : Hp} {mvs : List Val} {vs : List V} (h : AReps K g H0 F H mvs vs) (hb : ∀ p, H0 p ≠ none → B p ≠ none) : AReps K g B F H mvs vs := by
  induction h with
  | nil => exact .nil
  | @cons mv v mvs vs h _ ih =>
    refine .cons ?_ ih
    obtain ⟨m, d⟩ := mv
    cases m with
    | frz => exact h
    | own => exact h
    | bor => obtain ⟨p, e, z, o⟩ := h; exact ⟨p, e, hb p z, o⟩
    | lnt => exact h
theorem AReps.len {mvs : List Val} {vs : List V} (h : AReps K g H0 F H mvs vs) : vs.length = mvs.length := by
  induction h with
  | nil => rfl
  | cons _ _ ih => simp [ih]

theorem XP.shift {C : Nat} {fs : List D} (h : XP K g W σ F H C fs) (e : Ext F H F1 H1) : XP K g W σ F1 H1 C fs :=
  fun dx F' H' e' x => h dx F' H' (e.trans e') (x.start e)
/-- a wish about a result, stable while the heap grows -/
structure PostOk {β : Type} (K : PySem.W.Frag) (g : Tab) (W : WX) (σ : L2.St) (Post : Hp → Hp → R β → Prop) : Prop where
  no : ∀ F H, Post F H .no → False
  ex : ∀ F H C fs, Post F H (.ex C fs) → XP K g W σ F H C fs
  shift : ∀ F H F1 H1 r, Ext F H F1 H1 → Post F H r → Post F1 H1 r
theorem postE_ok (Q : VK) : PostOk K g W σ (PostE K g H0 W σ Q) := by
  refine ⟨fun _ _ h => h, fun _ _ _ _ h => h, fun F H F1 H1 r e h => ?_⟩
  cases r with
  | ok mv => exact fun v F' H' e' x => h v F' H' (e.trans e') (x.start e)
  | ex C fs => exact XP.shift h e
  | no => exact h
theorem postT_ok (Q : Bool → Hp → Prop) : PostOk K g W σ (PostT K g W σ Q) := by
  refine ⟨fun _ _ h => h, fun _ _ _ _ h => h, fun F H F1 H1 r e h => ?_⟩
  cases r with
  | ok mv => exact fun F' H' e' => h F' H' (e.trans e')
  | ex C fs => exact XP.shift h e
  | no => exact h
theorem postA_ok (Q : List V → Hp → Prop) : PostOk K g W σ (PostA K g H0 W σ Q) := by
  refine ⟨fun _ _ h => h, fun _ _ _ _ h => h, fun F H F1 H1 r e h => ?_⟩
  cases r with
  | ok mv => exact fun v F' H' e' x => h v F' H' (e.trans e') x
  | ex C fs => exact XP.shift h e
  | no => exact h
end

section
variable {K : PySem.W.Frag} {g : Tab} {xo : XO} {F0 H0 : Hp} {W : WX} {σ : L2.St} {H : Hp}
def TEo (K : PySem.W.Frag) (g : Tab) (xo : XO) (F0 H0 : Hp) (W : WX) (f : Env → R Val) : TE := fun σ H Q => ∃ F env, FRel K g xo F0 H0 F H σ env ∧ PostE K g H0 W σ Q F H (f env)
def TTo (K : PySem.W.Frag) (g : Tab) (xo : XO) (F0 H0 : Hp) (W : WX) (f : Env → R Bool) : TT := fun σ H Q => ∃ F env, FRel K g xo F0 H0 F H σ env ∧ PostT K g W σ Q F H (f env)
def TAo (K : PySem.W.Frag) (g : Tab) (xo : XO) (F0 H0 : Hp) (W : WX) (f : Env → R (List Val)) : TA := fun σ H Q => ∃ F env, FRel K g xo F0 H0 F H σ env ∧ PostA K g H0 W σ Q F H (f env)

/-- THE STEP: first f, then what follows -/
theorem bindE {β : Type} {Post : Hp → Hp → R β → Prop} {f : Env → R Val} {env : Env} {k : Val → R β} {Q' : VK} {F : Hp} (P : PostOk K g W σ Post) (R0 : FRel K g xo F0 H0 F H σ env) (h : Post F H ((f env).bind k))
    (hk : ∀ mv v F' H', Ext F H F' H' → ARep K g H0 F' H' (pas mv) v → FRel K g xo F0 H0 F' H' σ env → Post F' H' (k mv) → Q' v H') : TEo K g xo F0 H0 W f σ H Q' := by
  refine ⟨F, env, R0, ?_⟩
  cases e : f env with
  | ok mv =>
    rw [e, R.bind_ok] at h
    intro v F' H' e' x
    obtain ⟨F2, e2, a⟩ := x.pas e'
    exact hk mv v F2 H' e2 a (R0.ext' e2) (P.shift _ _ _ _ _ e2 h)
  | ex C fs => rw [e, R.bind_ex] at h; exact P.ex _ _ _ _ h
  | no => rw [e, R.bind_no] at h; exact (P.no _ _ h).elim
/-- .. with the equation -/
theorem bindQ {β : Type} {Post : Hp → Hp → R β → Prop} {f : Env → R Val} {env : Env} {k : Val → R β} {Q' : VK} {F : Hp} (P : PostOk K g W σ Post) (R0 : FRel K g xo F0 H0 F H σ env) (h : Post F H ((f env).bind k))
    (hk : ∀ mv v F' H', f env = .ok mv → Ext F H F' H' → ARep K g H0 F' H' (pas mv) v → FRel K g xo F0 H0 F' H' σ env → Post F' H' (k mv) → Q' v H') : TEo K g xo F0 H0 W f σ H Q' := by
  refine ⟨F, env, R0, ?_⟩
  cases e : f env with
  | ok mv =>
    rw [e, R.bind_ok] at h
    intro v F' H' e' x
    obtain ⟨F2, e2, a⟩ := x.pas e'
    exact hk mv v F2 H' e e2 a (R0.ext' e2) (P.shift _ _ _ _ _ e2 h)
  | ex C fs => rw [e, R.bind_ex] at h; exact P.ex _ _ _ _ h
  | no => rw [e, R.bind_no] at h; exact (P.no _ _ h).elim
/-- .. as it is, fresh or not -/
theorem bindV {β : Type} {Post : Hp → Hp → R β → Prop} {f : Env → R Val} {env : Env} {k : Val → R β} {Q' : VK} {F : Hp} (P : PostOk K g W σ Post) (R0 : FRel K g xo F0 H0 F H σ env) (h : Post F H ((f env).bind k))
    (hk : ∀ mv v F' H', Ext F H F' H' → VRep K g H0 H F' H' mv v → FRel K g xo F0 H0 F' H' σ env → Post F' H' (k mv) → Q' v H') : TEo K g xo F0 H0 W f σ H Q' := by
  refine ⟨F, env, R0, ?_⟩
  cases e : f env with
  | ok mv =>
    rw [e, R.bind_ok] at h
    intro v F' H' e' x
    exact hk mv v F' H' e' x (R0.ext' e') (P.shift _ _ _ _ _ e' h)
  | ex C fs => rw [e, R.bind_ex] at h; exact P.ex _ _ _ _ h
  | no => rw [e, R.bind_no] at h; exact (P.no _ _ h).elim
theorem bindT' {β : Type} {Post : Hp → Hp → R β → Prop} {f : Env → R Bool} {env : Env} {k : Bool → R β} {Q' : Bool → Hp → Prop} {F : Hp} (P : PostOk K g W σ Post) (R0 : FRel K g xo F0 H0 F H σ env) (h : Post F H ((f env).bind k))
    (hk : ∀ b F' H', Ext F H F' H' → FRel K g xo F0 H0 F' H' σ env → Post F' H' (k b) → Q' b H') : TTo K g xo F0 H0 W f σ H Q' := by
  refine ⟨F, env, R0, ?_⟩
  cases e : f env with
  | ok b =>
    rw [e, R.bind_ok] at h
    intro F' H' e'
    exact hk b F' H' e' (R0.ext' e') (P.shift _ _ _ _ _ e' h)
  | ex C fs => rw [e, R.bind_ex] at h; exact P.ex _ _ _ _ h
  | no => rw [e, R.bind_no] at h; exact (P.no _ _ h).elim
theorem bindA {β : Type} {Post : Hp → Hp → R β → Prop} {f : Env → R (List Val)} {env : Env} {k : List Val → R β} {Q' : List V → Hp → Prop} {F : Hp} (P : PostOk K g W σ Post) (R0 : FRel K g xo F0 H0 F H σ env) (h : Post F H ((f env).bind k))
    (hk : ∀ mvs vs F' H', Ext F H F' H' → AReps K g H0 F' H' mvs vs → FRel K g xo F0 H0 F' H' σ env → Post F' H' (k mvs) → Q' vs H') : TAo K g xo F0 H0 W f σ H Q' := by
  refine ⟨F, env, R0, ?_⟩
  cases e : f env with
  | ok b =>
    rw [e, R.bind_ok] at h
    intro vs F' H' e' a
    exact hk b vs F' H' e' a (R0.ext' e') (P.shift _ _ _ _ _ e' h)
  | ex C fs => rw [e, R.bind_ex] at h; exact P.ex _ _ _ _ h
  | no => rw [e, R.bind_no] at h; exact (P.no _ _ h).elim
end

theorem R.bind_assoc {α β γ : Type} (x : R α) (k1 : α → R β) (k2 : β → R γ) : (x.bind k1).bind k2 = x.bind fun v => (k1 v).bind k2 := by cases x <;> rfl
section
variable {K : PySem.W.Frag} {g : Tab} {W : WX} {σ : L2.St} {H0 F H : Hp} {Q : VK}
/-- the result is frozen, nothing new -/
theorem PostE.frz {d : D} {v : V} (p : PostE K g H0 W σ Q F H (.ok (.frz, d))) (s : ∀ a o, F a = some o → H a = some o) (r : Rep K g F d v) : Q v H := p v F H (Ext.refl s) r
/-- a new list, its own -/
theorem PostE.newL {xs : List D} {vs : List V} (p : PostE K g H0 W σ Q F H (.ok (.own, .lst xs))) (s : ∀ a o, F a = some o → H a = some o) (r : RepL K g F xs vs) (q : Addr) (hq : H q = none) : Q (.ref q) (upd H q (.lst vs)) := by
  refine p (.ref q) F _ ((Ext.refl s).laid hq) ⟨q, rfl, hq, ?_, vs, upd_same, r⟩
  cases e : F q with
  | none => rfl
  | some u => rw [s q u e] at hq; cases hq
/-- a new tuple -/
theorem PostE.newT {xs : List D} {vs : List V} (p : PostE K g H0 W σ Q F H (.ok (.frz, .tup xs))) (s : ∀ a o, F a = some o → H a = some o) (r : RepL K g F xs vs) (q : Addr) (hq : H q = none) : Q (.ref q) (upd H q (.tup vs)) := by
  have e := (Ext.refl s).laidF (o := .tup vs) hq
  exact p (.ref q) _ _ e (Rep.mkT (SqT.of upd_same) (RepL.mono e.ff _ _ r))
end
/-- an expression that is f -/
abbrev SE (g : Tab) (xo : XO) (F0 H0 : Hp) (W : WX) (X : Cx) (e : Expr) (f : Env → R Val) : Prop := PE X e (TEo X.K g xo F0 H0 W f)
abbrev STs (g : Tab) (xo : XO) (F0 H0 : Hp) (W : WX) (X : Cx) (e : Expr) (f : Env → R Bool) : Prop := PT X e (TTo X.K g xo F0 H0 W f)
abbrev SA (g : Tab) (xo : XO) (F0 H0 : Hp) (W : WX) (X : Cx) (es : List Expr) (f : Env → R (List Val)) : Prop := PA X es (TAo X.K g xo F0 H0 W f)

section
variable {g : Tab} {xo : XO} {F0 H0 : Hp} {W : WX} {X : Cx} {e a b c : Expr} {pos : Pos} {fa fb fc : Env → R Val} {f : Env → R Val}

/-! ### names and constants -/
theorem se_const {d : D} {v : V} (h : PE X e (tC v)) (hr : ∀ F, Rep X.K g F d v) : SE g xo F0 H0 W X e (fun _ => .ok (.frz, d)) :=
  h.imp fun σ H Q ⟨F, env, R0, p⟩ => p v F H (Ext.refl R0.ext.sub) (hr F)
theorem se_var {i : Nat} {x : Str} (hN : X.N[i]? = some x) (hv : Vis X.env.scope x) (hd : (x == ("__debug__" : Str)) = false) (hcd : (x == ("__classdict__" : Str)) = false) :
    SE g xo F0 H0 W X (.Name x pos) (fun env => getS env i) := by
  refine (pe_var hN hv hd hcd).imp fun σ H Q ⟨F, env, R0, p⟩ => ?_
  show ∃ v, σ[i]? = some (some v) ∧ Q v H
  simp only [getS] at p
  cases e1 : env[i]? with
  | none => simp only [e1] at p; exact p.elim
  | some o =>
    cases o with
    | none => simp only [e1] at p; exact p.elim
    | some mv =>
      obtain ⟨m, d⟩ := mv
      simp only [e1] at p
      have sl := R0.slot i _ e1
      cases hx : isExc d with
      | true => simp only [hx, if_true] at p; exact p.elim
      | false =>
        simp only [hx, Bool.false_eq_true, if_false] at p
        cases m with
        | frz =>
          obtain ⟨v, h1, h2⟩ := SlotR.frz_inv sl hx
          exact ⟨v, h1, p v F H (Ext.refl R0.ext.sub) h2⟩
        | own =>
          obtain ⟨q, h1, h2, h3, _, h4⟩ := sl
          exact ⟨.ref q, h1, p _ F H (Ext.refl R0.ext.sub) ⟨q, rfl, h4⟩⟩
        | bor =>
          obtain ⟨q, h1, h2, h3⟩ := sl
          exact ⟨.ref q, h1, p _ F H (Ext.refl R0.ext.sub) ⟨q, rfl, h2, h3⟩⟩
        | lnt => exact sl.elim

/-! ### two operands -/
theorem se_op {op : Operator} {r : R2} {k : D → D → R Val} (ho : OpR X (binaryOp op) r)
    (hr : ∀ σ Q F H dx dy x y, (∀ a o, F a = some o → H a = some o) → RD X.K g F H dx x → RD X.K g F H dy y → PostE X.K g H0 W σ Q F H (k dx dy) → r x y H Q)
    (ha : SE g xo F0 H0 W X a fa) (hb : SE g xo F0 H0 W X b fb) : SE g xo F0 H0 W X (.BinOp a op b pos) (fun env => (fa env).bind fun x => (fb env).bind fun y => k x.2 y.2) := by
  refine (pe_op ho ha hb).imp fun σ H Q ⟨F, env, R0, p⟩ => ?_
  refine bindE (postE_ok Q) R0 p fun mv v F1 H1 e1 a1 R1 p1 => ?_
  refine bindE (postE_ok Q) R1 p1 fun mw w F2 H2 e2 a2 R2 p2 => ?_
  have z1 := (a1.stop e2).rd
  have z2 := a2.rd
  rw [pas_snd] at z1 z2
  exact hr σ Q F2 H2 _ _ v w R2.ext.sub z1 z2 p2
theorem se_cmp {op : CmpOp} {r : R2} {k : D → D → R Bool} (ho : OpR X (compareOp op) r)
    (hr : ∀ Q F H dx dy x y z, (∀ a o, F a = some o → H a = some o) → RD X.K g F H dx x → RD X.K g F H dy y → k dx dy = .ok z → Q (.bl z) H → r x y H Q) (hn : ∀ dx dy C fs, k dx dy ≠ .ex C fs) (hm : behindInMarks op b = false)
    (ha : SE g xo F0 H0 W X a fa) (hb : SE g xo F0 H0 W X b fb) : SE g xo F0 H0 W X (.Compare a [op] [b] pos) (fun env => (fa env).bind fun x => (fb env).bind fun y => (k x.2 y.2).bind fun r => R.ok (Mode.frz, D.bl r)) ∧
      STs g xo F0 H0 W X (.Compare a [op] [b] pos) (fun env => ((fa env).bind fun x => (fb env).bind fun y => (k x.2 y.2).bind fun r => R.ok (Mode.frz, D.bl r)).bind fun v => asB v.2) := by
  refine ⟨(pe_cmpR ho ha hb hm).imp fun σ H Q ⟨F, env, R0, p⟩ => ?_, (pt_cmpR ho ha hb hm).imp fun σ H Q ⟨F, env, R0, p⟩ => ?_⟩
  · refine bindE (postE_ok Q) R0 p fun mv v F1 H1 e1 a1 R1 p1 => ?_
    refine bindE (postE_ok Q) R1 p1 fun mw w F2 H2 e2 a2 R2 p2 => ?_
    have z1 := (a1.stop e2).rd
    have z2 := a2.rd
    rw [pas_snd] at z1 z2
    cases q : k mv.2 mw.2 with
    | ok z =>
      rw [q] at p2
      exact hr Q F2 H2 _ _ v w z R2.ext.sub z1 z2 q (PostE.frz p2 R2.ext.sub (Rep.mkB z))
    | ex C fs => exact absurd q (hn _ _ _ _)
    | no => rw [q] at p2; exact p2.elim
  · simp only [R.bind_assoc] at p
    refine bindE (postT_ok Q) R0 p fun mv v F1 H1 e1 a1 R1 p1 => ?_
    refine bindE (postT_ok Q) R1 p1 fun mw w F2 H2 e2 a2 R2 p2 => ?_
    have z1 := (a1.stop e2).rd
    have z2 := a2.rd
    rw [pas_snd] at z1 z2
    cases q : k mv.2 mw.2 with
    | ok z =>
      rw [q] at p2
      exact hr _ F2 H2 _ _ v w z R2.ext.sub z1 z2 q ⟨z, rfl, p2 F2 H2 (Ext.refl R2.ext.sub)⟩
    | ex C fs => exact absurd q (hn _ _ _ _)
    | no => rw [q] at p2; exact p2.elim
end
end Fx

/-! Dicts whose keys are tuples, nested: what their rows say, reading and writing them. -/
namespace Fx
open PySem PySem.Spec PyProof.Rows L2
section
variable {g : Tab} {X : Cx} {pins : List (Addr × Obj)} {σ : L2.St} {F H : Hp} {s : Shared}
mutual
/-- a frozen datum is its key -/
theorem nested_of (I : L2.Inv X pins σ H s) (sb : ∀ a o, F a = some o → H a = some o) : ∀ (d : D) (v : V) (u : Value), Rep X.K g F d v → d.kdat = true → L2.RelV v u → NestedIs s.heap (keyOf d) u
  | .non, v, u, r, _, ru => by
    rw [r.non] at ru
    obtain rfl : u = .none := ru
    simp only [keyOf]
    exact .none
  | .bl b, v, u, r, _, ru => by
    rw [r.bl] at ru
    obtain rfl : u = .bool b := ru
    simp only [keyOf]
    exact .bool rfl
  | .int i, v, u, r, _, ru => by
    rw [r.int] at ru
    obtain ⟨t, rfl⟩ : ∃ t, u = .int i t := ru
    simp only [keyOf]
    exact .int i t
  | .str x, v, u, r, _, ru => by
    rw [r.str] at ru
    obtain ⟨t, rfl⟩ : ∃ t, u = .str x t := ru
    simp only [keyOf]
    exact .text x t
  | .tup xs, v, u, r, h, ru => by
    obtain ⟨a, vs, rfl, q, t⟩ := r.tup
    obtain rfl : u = .ref a := ru
    obtain ⟨its, rv, ⟨o, ho, hc, n, hd⟩, _⟩ := I.tuple (SqT.mono sb q)
    simp only [keyOf]
    refine .tup ho hc hd ?_
    exact nested_all I sb xs vs its t (by simpa only [D.kdat] using h) rv
  | .lst _, v, u, r, h, ru => by simp [D.kdat] at h
  | .dct _ _, v, u, r, h, ru => by simp [D.kdat] at h
  | .st _, v, u, r, h, ru => by simp [D.kdat] at h
  | .scr _, v, u, r, h, ru => by simp [D.kdat] at h
  | .ins _ _, v, u, r, h, ru => by simp [D.kdat] at h
  | .exc _ _, v, u, r, h, ru => by simp [D.kdat] at h
theorem nested_all (I : L2.Inv X pins σ H s) (sb : ∀ a o, F a = some o → H a = some o) : ∀ (ds : List D) (vs : List V) (us : List Value), RepL X.K g F ds vs → D.kdatL ds = true → L2.Vals vs us → NestedAll s.heap (keysOf ds) us
  | [], vs, us, r, _, rv => by
    rw [r.inv0] at rv
    cases rv
    simp only [keysOf]
    exact .nil
  | d :: ds, vs, us, r, h, rv => by
    obtain ⟨v, w, rfl, r1, r2⟩ := r.inv
    cases rv with
    | cons q t =>
      simp only [D.kdatL, Bool.and_eq_true] at h
      simp only [keysOf]
      exact .cons (nested_of I sb d v _ r1 h.1 q) (nested_all I sb ds w _ r2 h.2 t)
end
end
mutual
theorem key_dep : ∀ d : D, (keyOf d).depth ≤ d.dep
  | .non => by simp [keyOf, NestedKey.depth]
  | .bl b => by simp [keyOf, NestedKey.depth]
  | .int i => by simp [keyOf, NestedKey.depth]
  | .str s => by simp [keyOf, NestedKey.depth]
  | .tup xs => by have := keys_dep xs; simp only [keyOf, NestedKey.depth, D.dep]; omega
  | .lst _ => by simp [keyOf, NestedKey.depth]
  | .dct _ _ => by simp [keyOf, NestedKey.depth]
  | .st _ => by simp [keyOf, NestedKey.depth]
  | .scr _ => by simp [keyOf, NestedKey.depth]
  | .ins _ _ => by simp [keyOf, NestedKey.depth]
  | .exc _ _ => by simp [keyOf, NestedKey.depth]
theorem keys_dep : ∀ ds : List D, NestedKey.depthAll (keysOf ds) ≤ D.depL ds
  | [] => by simp [keysOf, NestedKey.depthAll]
  | d :: ds => by have a := key_dep d; have b := keys_dep ds; simp only [keysOf, NestedKey.depthAll, D.depL]; omega
end
mutual
theorem eqv_key : ∀ a b : D, a.kdat = true → b.kdat = true → D.eqv a b = NestedKey.beq (keyOf a) (keyOf b)
  | .non, b, _, h => by cases b <;> first | (simp [D.kdat] at h; done) | (simp [keyOf, NestedKey.beq, D.eqv])
  | .bl x, b, _, h => by
    cases b with
    | bl y => cases x <;> cases y <;> simp [keyOf, NestedKey.beq, D.eqv]
    | int j => simp only [keyOf, NestedKey.beq, D.eqv]; exact Bool.beq_eq_decide_eq _ _
    | _ => first | (simp [D.kdat] at h; done) | (simp [keyOf, NestedKey.beq, D.eqv])
  | .int x, b, _, h => by
    cases b with
    | bl y => simp only [keyOf, NestedKey.beq, D.eqv]; exact Bool.beq_eq_decide_eq _ _
    | int j => simp only [keyOf, NestedKey.beq, D.eqv]; exact Bool.beq_eq_decide_eq _ _
    | _ => first | (simp [D.kdat] at h; done) | (simp [keyOf, NestedKey.beq, D.eqv])
  | .str x, b, _, h => by
    cases b with
    | str y =>
      simp only [keyOf, NestedKey.beq, D.eqv]
      by_cases e : x = y
      · subst e; simp
      · rw [decide_eq_false e]; simpa using e
    | _ => first | (simp [D.kdat] at h; done) | (simp [keyOf, NestedKey.beq, D.eqv])
  | .tup xs, b, h1, h => by
    cases b with
    | tup ys => simp only [keyOf, NestedKey.beq, D.eqv]; exact eqv_keys xs ys (by simpa only [D.kdat] using h1) (by simpa only [D.kdat] using h)
    | _ => first | (simp [D.kdat] at h; done) | (simp [keyOf, NestedKey.beq, D.eqv])
  | .lst _, b, h, _ => by simp [D.kdat] at h
  | .dct _ _, b, h, _ => by simp [D.kdat] at h
  | .st _, b, h, _ => by simp [D.kdat] at h
  | .scr _, b, h, _ => by simp [D.kdat] at h
  | .ins _ _, b, h, _ => by simp [D.kdat] at h
  | .exc _ _, b, h, _ => by simp [D.kdat] at h
theorem eqv_keys : ∀ as bs : List D, D.kdatL as = true → D.kdatL bs = true → D.eqvL as bs = NestedKey.beqAll (keysOf as) (keysOf bs)
  | [], [], _, _ => by simp [keysOf, NestedKey.beqAll, D.eqvL]
  | [], _ :: _, _, _ => by simp [keysOf, NestedKey.beqAll, D.eqvL]
  | _ :: _, [], _, _ => by simp [keysOf, NestedKey.beqAll, D.eqvL]
  | a :: as, b :: bs, h1, h2 => by
    simp only [D.kdatL, Bool.and_eq_true] at h1 h2
    simp only [keysOf, NestedKey.beqAll, D.eqvL, eqv_key a b h1.1 h2.1, eqv_keys as bs h1.2 h2.2]
end
theorem keyOk_tup {d : D} (h : d.keyOk = true) : ∃ xs, d = .tup xs ∧ d.kdat = true ∧ d.dep ≤ 7 := by
  cases d with
  | tup xs =>
    simp only [D.keyOk, Bool.and_eq_true, decide_eq_true_eq] at h
    exact ⟨xs, rfl, by simpa only [D.kdat] using h.1, by simp only [D.dep]; omega⟩
  | _ => simp [D.keyOk] at h
theorem key_dec {a b : D} (ha : a.keyOk = true) (hb : b.keyOk = true) : D.eqv a b = decide (keyOf a = keyOf b) := by
  obtain ⟨_, _, h1, _⟩ := keyOk_tup ha
  obtain ⟨_, _, h2, _⟩ := keyOk_tup hb
  rw [eqv_key a b h1 h2]
  exact (NestedKey.decide_eq _ _).symm
/-- the rows, over the heap -/
inductive KX : List D → List V → List V → List (NestedKey × Addr × Value) → Prop where
  | nil : KX [] [] [] []
  | cons {k : D} {p : Addr} {b : V} {u : Value} {ks : List D} {as bs : List V} {xs : List (NestedKey × Addr × Value)} : L2.RelV b u → KX ks as bs xs → KX (k :: ks) (V.ref p :: as) (b :: bs) ((keyOf k, p, u) :: xs)
theorem KX.keys {ks : List D} {as bs : List V} {xs : List (NestedKey × Addr × Value)} (h : KX ks as bs xs) : xs.map (·.1) = ks.map keyOf := by
  induction h with
  | nil => rfl
  | cons _ _ ih => simp [ih]
theorem KX.len {ks : List D} {as bs : List V} {xs : List (NestedKey × Addr × Value)} (h : KX ks as bs xs) : xs.length = ks.length ∧ as.length = ks.length ∧ bs.length = ks.length := by
  induction h with
  | nil => exact ⟨rfl, rfl, rfl⟩
  | cons _ _ ih => simp [ih.1, ih.2.1, ih.2.2]
theorem KX.rows {P : Program} {w : World} {ks : List D} {as bs : List V} {xs : List (NestedKey × Addr × Value)} (h : KX ks as bs xs) : Paired RowOk (dEs w ks as bs) (xs.map (entryOfKey (nestedKind P w))) := by
  induction h with
  | nil => exact .nil
  | cons r _ ih => exact .cons ⟨rfl, rfl, r⟩ ih
theorem dEs_len {w : World} : ∀ {ks : List D} {as bs : List V}, as.length = ks.length → bs.length = ks.length → (dEs w ks as bs).length = ks.length
  | [], _, _, _, _ => rfl
  | k :: ks, a :: as, b :: bs, h1, h2 => by simp [dEs, dEs_len (w := w) (ks := ks) (as := as) (bs := bs) (by simpa using h1) (by simpa using h2)]
  | _ :: _, [], _, h, _ => by simp at h
  | _ :: _, _ :: _, [], _, h => by simp at h
section
variable {g : Tab} {X : Cx} {pins : List (Addr × Obj)} {σ : L2.St} {F H : Hp} {s : Shared}
theorem kx_of (I : L2.Inv X pins σ H s) (sb : ∀ a o, F a = some o → H a = some o) : ∀ {ks ds : List D} {as bs : List V} {en : List DictEntry}, RepL X.K g F ks as → RepL X.K g F ds bs → ks.all D.keyOk = true → ks.length = ds.length → Paired RowOk (dEs X.w ks as bs) en →
    ∃ xs, KX ks as bs xs ∧ en = xs.map (entryOfKey (nestedKind X.prog X.w)) ∧ ∀ x ∈ xs, (nestedKind X.prog X.w).is s.heap x.1 x.2.1
  | [], ds, as, bs, en, rk, rv, _, hl, p => by
    obtain rfl := rk.inv0
    obtain rfl : ds = [] := List.length_eq_zero_iff.mp hl.symm
    obtain rfl := rv.inv0
    cases p
    exact ⟨[], .nil, rfl, fun _ h => by cases h⟩
  | k :: ks, [], _, _, _, _, _, _, hl, _ => by simp at hl
  | k :: ks, d :: ds, as, bs, en, rk, rv, ha, hl, p => by
    obtain ⟨a, as', rfl, r1, r2⟩ := rk.inv
    obtain ⟨b, bs', rfl, t1, t2⟩ := rv.inv
    simp only [List.all_cons, Bool.and_eq_true] at ha
    obtain ⟨zs, rfl, hk, hd⟩ := keyOk_tup ha.1
    obtain ⟨q, vs, rfl, hq, hz⟩ := r1.tup
    cases p with
    | @cons _ x _ en' pr pt =>
      obtain ⟨e1, e2, e3⟩ := pr
      obtain ⟨xs, x1, x2, x3⟩ := kx_of I sb r2 t2 ha.2 (by simpa using hl) pt
      refine ⟨(keyOf (.tup zs), q, x.val) :: xs, .cons e3 x1, ?_, fun y hy => ?_⟩
      · obtain ⟨xh, xk, xv⟩ := x
        obtain rfl : xk = .ref q := e2
        simp only [List.map_cons, entryOfKey]
        rw [← x2]
        congr 1
        simp only at e1
        rw [e1]
        rfl
      · rcases List.mem_cons.mp hy with rfl | hy
        · exact ⟨nested_of I sb _ _ _ r1 hk rfl, by have := key_dep (D.tup zs); simp only at this ⊢; omega⟩
        · exact x3 y hy
end
theorem dIx_cons {k x : D} {ks : List D} : dIx (k :: ks) x = if D.eqv k x = true then some 0 else (dIx ks x).map (· + 1) := by
  unfold dIx
  rw [List.findIdx?_cons]
theorem KX.at_ {k : D} (hk : k.keyOk = true) {ks : List D} {as bs : List V} {xs : List (NestedKey × Addr × Value)} (h : KX ks as bs xs) : ks.all D.keyOk = true →
    (dIx ks k = none ∧ atKey xs (keyOf k) = none) ∨ ∃ i p u b, dIx ks k = some i ∧ bs[i]? = some b ∧ L2.RelV b u ∧ atKey xs (keyOf k) = some (p, u) := by
  induction h with
  | nil => intro _; exact .inl ⟨rfl, rfl⟩
  | @cons k' p b u ks as bs xs r h ih =>
    intro ha
    simp only [List.all_cons, Bool.and_eq_true] at ha
    rw [dIx_cons, key_dec ha.1 hk]
    by_cases e : keyOf k' = keyOf k
    · rw [decide_eq_true e, if_pos rfl]
      refine .inr ⟨0, p, u, b, rfl, rfl, r, ?_⟩
      unfold atKey
      rw [List.find?_cons]
      simp [e]
    · rw [decide_eq_false e, if_neg (by simp)]
      have e2 : atKey ((keyOf k', p, u) :: xs) (keyOf k) = atKey xs (keyOf k) := by
        unfold atKey
        rw [List.find?_cons]
        simp [e]
      rw [e2]
      rcases ih ha.2 with ⟨h1, h2⟩ | ⟨i, q, w, c, h1, h2, h3, h4⟩
      · exact .inl ⟨by rw [h1]; rfl, h2⟩
      · exact .inr ⟨i + 1, q, w, c, by rw [h1]; rfl, h2, h3, h4⟩
theorem KX.snoc {k : D} {p : Addr} {b : V} {u : Value} (r : L2.RelV b u) {ks : List D} {as bs : List V} {xs : List (NestedKey × Addr × Value)} (h : KX ks as bs xs) : KX (ks ++ [k]) (as ++ [V.ref p]) (bs ++ [b]) (xs ++ [(keyOf k, p, u)]) := by
  induction h with
  | nil => exact .cons r .nil
  | cons r' _ ih => exact .cons r' ih
theorem KX.put {k : D} (hk : k.keyOk = true) {b : V} {u : Value} (r : L2.RelV b u) {ks : List D} {as bs : List V} {xs : List (NestedKey × Addr × Value)} (h : KX ks as bs xs) : ∀ {i : Nat}, ks.all D.keyOk = true → (ks.map keyOf).Nodup → dIx ks k = some i → KX ks as (bs.set i b) (xs.map (putAt (keyOf k) u)) := by
  induction h with
  | nil => intro i _ _ e; cases e
  | @cons k' p b' u' ks as bs xs r' h ih =>
    intro i ha nd e
    simp only [List.all_cons, Bool.and_eq_true] at ha
    simp only [List.map_cons, List.nodup_cons] at nd
    rw [dIx_cons, key_dec ha.1 hk] at e
    by_cases q : keyOf k' = keyOf k
    · rw [decide_eq_true q, if_pos rfl] at e
      cases e
      have hn : keyOf k ∉ xs.map (·.1) := by rw [h.keys, ← q]; exact nd.1
      rw [List.map_cons, map_putAt_of_not_mem xs _ u hn]
      have e3 : putAt (keyOf k) u (keyOf k', p, u') = (keyOf k', p, u) := by unfold putAt; rw [if_pos q]
      rw [e3]
      exact .cons r h
    · rw [decide_eq_false q, if_neg (by simp)] at e
      obtain ⟨j, hj, rfl⟩ := Option.map_eq_some_iff.mp e
      have e3 : putAt (keyOf k) u (keyOf k', p, u') = (keyOf k', p, u') := by unfold putAt; rw [if_neg q]
      rw [List.map_cons, e3, List.set_cons_succ]
      exact .cons r' (ih ha.2 nd.2 hj)
/-- the dict at a -/
structure DHas (K : PySem.W.Frag) (g : Tab) (F H : Hp) (a : Addr) (ep : Nat) (ks ds : List D) (kvs vvs : List V) : Prop where
  at_ : H a = some (dictHO a ep (dEs g.wd ks kvs vvs))
  rk : RepL K g F ks kvs
  rv : RepL K g F ds vvs
  ok : DOk ks ds
theorem DHas.mono {K : PySem.W.Frag} {g : Tab} {F F' H : Hp} {a : Addr} {ep : Nat} {ks ds : List D} {kvs vvs : List V} (h : DHas K g F H a ep ks ds kvs vvs) (s : ∀ a o, F a = some o → F' a = some o) : DHas K g F' H a ep ks ds kvs vvs := ⟨h.at_, RepL.mono s _ _ h.rk, RepL.mono s _ _ h.rv, h.ok⟩
theorem RD.has {K : PySem.W.Frag} {g : Tab} {F H : Hp} {ks ds : List D} {v : V} (h : RD K g F H (.dct ks ds) v) (s : ∀ a o, F a = some o → H a = some o) : ∃ a ep kvs vvs, v = .ref a ∧ DHas K g F H a ep ks ds kvs vvs := by
  obtain ⟨a, ep, kvs, vvs, e, q, r, t, o⟩ := h.dct s
  exact ⟨a, ep, kvs, vvs, e, q, r, t, o⟩
section
variable {g : Tab} {X : Cx} {pins : List (Addr × Obj)} {σ : L2.St} {F H : Hp} {s : Shared} {a : Addr} {ep : Nat} {ks ds : List D} {kvs vvs : List V}
theorem has_heap (hw : g.wd = X.w) (I : L2.Inv X pins σ H s) (sb : ∀ a o, F a = some o → H a = some o) (h : DHas X.K g F H a ep ks ds kvs vvs) :
    (a == sysModules) = false ∧ ks.length ≤ sizeLine ∧ ∃ xs o en, s.heap.get? a = some o ∧ o.ExactDict ∧ o.data = .dict en ep ∧ KX ks kvs vvs xs ∧ en.toList = xs.map (entryOfKey (nestedKind X.prog X.w)) ∧ s.heap.DictOfH (nestedKind X.prog X.w) a xs := by
  obtain ⟨⟨h1, h2, o, en, h3, h4, h5, h6⟩, _, _⟩ := (show ObjOk X.prog X.w H s.heap a (dictHO a ep (dEs g.wd ks kvs vvs)) from I.hok a _ h.at_)
  rw [hw] at h6 h2
  obtain ⟨xs, x1, x2, x3⟩ := kx_of I sb h.rk h.rv h.ok.2.1 h.ok.2.2 h6
  rw [dEs_len x1.len.2.1 x1.len.2.2] at h2
  exact ⟨h1, h2, xs, o, en, h3, h4, h5, x1, x2, o, en, ep, h3, h4, h5, x2, x3, by rw [x1.keys]; exact h.ok.1⟩
theorem key_is (I : L2.Inv X pins σ H s) (sb : ∀ a o, F a = some o → H a = some o) {k : D} {y : V} (hk : k.keyOk = true) (r : Rep X.K g F k y) : ∃ p, y = .ref p ∧ (nestedKind X.prog X.w).is s.heap (keyOf k) p := by
  obtain ⟨xs, rfl, h1, h2⟩ := keyOk_tup hk
  obtain ⟨p, vs, rfl, _, _⟩ := r.tup
  exact ⟨p, rfl, nested_of I sb _ _ _ r h1 rfl, by have := key_dep (D.tup xs); omega⟩
end
theorem RD.key {K : PySem.W.Frag} {g : Tab} {F H : Hp} {k : D} {v : V} (h : RD K g F H k v) (hk : k.keyOk = true) : Rep K g F k v := by
  rcases h with h | ⟨p, e, o⟩
  · exact h
  · obtain ⟨xs, rfl, _, _⟩ := keyOk_tup hk
    exact o.elim
/-! ### d[k] -/
def rDGet (K : PySem.W.Frag) (g : Tab) : L2.R2 := fun x y H Q => ∃ F a ep ks ds kvs vvs k d, x = .ref a ∧ (∀ a o, F a = some o → H a = some o) ∧ DHas K g F H a ep ks ds kvs vvs ∧ Rep K g F k y ∧ k.keyOk = true ∧ dGet ks ds k = some d ∧ ∀ v, Rep K g F d v → Q v H
section
variable {g : Tab} {X : Cx}
theorem units8 {A : Around} (h : A.units + 65 < cLine) (prog : Program) (w : World) : (nestedKind prog w).room A.in1 := by
  show A.in1.units + 8 < cLine
  have : A.in1.units = A.units + 1 := rfl
  omega
theorem ix_dct (hw : g.wd = X.w) (hu : X.A.units + 65 < cLine) : IxR X (rDGet X.K g) := by
  intro value slice pins s σ H x y v u Q I rx ry ⟨F, a, ep, ks, ds, kvs, vvs, k, d, e, sb, h, rk, hk, hg, q⟩ hs
  subst e
  obtain rfl : v = .ref a := rx
  obtain ⟨p, rfl, hp⟩ := key_is I sb hk rk
  obtain rfl : u = .ref p := ry
  obtain ⟨h1, h2, xs, o, en, h3, h4, h5, kx, _, dd⟩ := has_heap hw I sb h
  unfold dGet at hg
  rcases kx.at_ hk h.ok.2.1 with ⟨n1, _⟩ | ⟨i, q', w', b, n1, n2, n3, n4⟩
  · rw [n1] at hg; cases hg
  · rw [n1] at hg
    have hd : ds[i]? = some d := hg
    obtain ⟨b', hb1, hb2⟩ := h.rv.get hd
    rw [n2] at hb1
    cases hb1
    refine subscriptTail_builtinR (x := w') dd.typeIs PySem.F.slot_dict_getitem.lookup ?_ hs
    exact wpAny_getItem_heap (units8 hu _ _) hp dd n4 ⟨rfl, ⟨b, H, I.tok _, n3, q b hb2⟩⟩
/-! ### k in d -/
def rDIn (K : PySem.W.Frag) (g : Tab) (neg : Bool) : L2.R2 := fun y x H Q => ∃ F a ep ks ds kvs vvs k, x = .ref a ∧ (∀ a o, F a = some o → H a = some o) ∧ DHas K g F H a ep ks ds kvs vvs ∧ Rep K g F k y ∧ k.keyOk = true ∧ Q (.bl (if neg then !(dIx ks k).isSome else (dIx ks k).isSome)) H
theorem at_some {k : D} (hk : k.keyOk = true) {ks : List D} {as bs : List V} {xs : List (NestedKey × Addr × Value)} (h : KX ks as bs xs) (ha : ks.all D.keyOk = true) : (atKey xs (keyOf k)).isSome = (dIx ks k).isSome := by
  rcases h.at_ hk ha with ⟨n1, n2⟩ | ⟨i, q', w', b, n1, n2, n3, n4⟩
  · rw [n1, n2]; rfl
  · rw [n1, n4]; rfl
theorem op_din (hw : g.wd = X.w) (hu : X.A.units + 65 < cLine) : OpR X (compareOp .In) (rDIn X.K g false) := by
  intro pins s σ H y x u v Q I ry rx ⟨F, a, ep, ks, ds, kvs, vvs, k, e, sb, h, rk, hk, q⟩
  subst e
  obtain rfl : v = .ref a := rx
  obtain ⟨p, rfl, hp⟩ := key_is I sb hk rk
  obtain rfl : u = .ref p := ry
  obtain ⟨h1, h2, xs, o, en, h3, h4, h5, kx, _, dd⟩ := has_heap hw I sb h
  refine wpAny_in_heap (units8 hu _ _) hp h1 dd ?_
  rw [at_some hk kx h.ok.2.1]
  exact ⟨.bl _, H, I.tok _, rfl, q⟩
theorem op_dnin (hw : g.wd = X.w) (hu : X.A.units + 65 < cLine) : OpR X (compareOp .NotIn) (rDIn X.K g true) := by
  intro pins s σ H y x u v Q I ry rx ⟨F, a, ep, ks, ds, kvs, vvs, k, e, sb, h, rk, hk, q⟩
  subst e
  obtain rfl : v = .ref a := rx
  obtain ⟨p, rfl, hp⟩ := key_is I sb hk rk
  obtain rfl : u = .ref p := ry
  obtain ⟨h1, h2, xs, o, en, h3, h4, h5, kx, _, dd⟩ := has_heap hw I sb h
  refine wpAny_notIn_heap (units8 hu _ _) hp h1 dd ?_
  rw [at_some hk kx h.ok.2.1]
  exact ⟨.bl _, H, I.tok _, rfl, q⟩
/-! ### len(d) -/
def rDLen (K : PySem.W.Frag) (g : Tab) : List V → Hp → VK → Prop := fun xs H Q => ∃ F a ep ks ds kvs vvs, xs = [.ref a] ∧ (∀ a o, F a = some o → H a = some o) ∧ DHas K g F H a ep ks ds kvs vvs ∧ Q (.int ks.length) H
theorem call_dlen (hw : g.wd = X.w) : CallR X (.builtin "len") (rDLen X.K g) := by
  intro pins s σ H xs us Q I r ⟨F, a, ep, ks, ds, kvs, vvs, e, sb, h, q⟩
  subst e
  obtain ⟨u, rfl, rx⟩ := vals1 r
  obtain rfl : u = .ref a := rx
  obtain ⟨h1, h2, xs, o, en, h3, h4, h5, kx, _, dd⟩ := has_heap hw I sb h
  have hl := kx.len.1
  refine call_len_dictH h1 dd (by rw [hl]; rw [sizeLine_eq] at h2; omega) ?_
  rw [hl]
  exact ⟨.int ks.length, H, I.tok _, ⟨_, rfl⟩, q⟩
/-! ### d[k] = v -/
def rDSet (K : PySem.W.Frag) (g : Tab) : V → V → V → Hp → (Hp → Prop) → Prop := fun x y v H Q => ∃ F a ep ks ds kvs vvs k d, x = .ref a ∧ (∀ a o, F a = some o → H a = some o) ∧ DHas K g F H a ep ks ds kvs vvs ∧ Rep K g F k y ∧ k.keyOk = true ∧ Rep K g F d v ∧ ks.length < sizeLine ∧ F a = none ∧
  ∀ ep' kvs' vvs', DHas K g F (upd H a (dictHO a ep' (dEs g.wd (dPut ks ds k d).1 kvs' vvs'))) a ep' (dPut ks ds k d).1 (dPut ks ds k d).2 kvs' vvs' → Q (upd H a (dictHO a ep' (dEs g.wd (dPut ks ds k d).1 kvs' vvs')))
theorem dict_ok {P : Program} {w : World} {H : Hp} {h : Heap} {a : Addr} {ep : Nat} {es : List (Int × V × V)} (x : DictAt h a ep es) : ObjOk P w H h a (dictHO a ep es) := by
  refine ⟨x, ?_, fun h1 h2 y k => ?_⟩
  · obtain ⟨_, _, o, _, e, _⟩ := x
    exact ⟨o, e⟩
  · obtain ⟨y1, y2, o, en, e, r⟩ := y
    exact ⟨y1, y2, o, en, k o e, r⟩
theorem set_dct (hw : g.wd = X.w) (hu : X.A.units + 65 < cLine) : PSet X (rDSet X.K g) := by
  intro pins s σ H x y v ov iv u Q I rx ry rv ⟨F, a, ep, ks, ds, kvs, vvs, k, d, e, sb, h, rk, hk, rd, hl, hf, q⟩
  subst e
  obtain rfl : ov = .ref a := rx
  obtain ⟨p, rfl, hp⟩ := key_is I sb hk rk
  obtain rfl : iv = .ref p := ry
  obtain ⟨h1, h2, xs, o, en, h3, h4, h5, kx, _, dd⟩ := has_heap hw I sb h
  have hsz : xs.length ≤ sizeLine := by rw [kx.len.1]; exact h2
  refine wpAny_setItem_heap (hsz := hsz) (units8 hu _ _) hp dd fun h' dd' hs => ?_
  obtain ⟨o', es', ep', g1, g2, g3, g4, g5, g6⟩ := dd'
  have fin : ∀ ks' ds' kvs' vvs', KX ks' kvs' vvs' (storedH xs (keyOf k) p u) → RepL X.K g F ks' kvs' → RepL X.K g F ds' vvs' → DOk ks' ds' → ks'.length ≤ sizeLine → dPut ks ds k d = (ks', ds') → ∃ H', L2.Inv X pins σ H' { s with heap := h', toks := s.toks + (nestedKind X.prog X.w).draws (keyOf k) } ∧ Q H' := by
    intro ks' ds' kvs' vvs' k1 k2 k3 k4 k5 k6
    have q2 := q ep' kvs' vvs'
    rw [k6] at q2
    have da : DictAt h' a ep' (dEs X.w ks' kvs' vvs') := ⟨h1, by rw [dEs_len k1.len.2.1 k1.len.2.2]; exact k5, o', es', g1, g2, g3, by rw [g4]; exact k1.rows⟩
    refine ⟨upd H a (dictHO a ep' (dEs g.wd ks' kvs' vvs')), ?_, q2 ⟨upd_same, k2, k3, k4⟩⟩
    rw [hw]
    exact I.write (x := a) (e := a) (by rw [h.at_]; exact trivial) (.inl rfl) (fun b r hb z => (hs.2 b hb).trans z) ⟨o', g1⟩ (dict_ok da)
  obtain ⟨od, oa, ol⟩ := h.ok
  rcases kx.at_ hk oa with ⟨n1, n2⟩ | ⟨i, q', w', b, n1, n2, n3, n4⟩
  · refine fin (ks ++ [k]) (ds ++ [d]) (kvs ++ [V.ref p]) (vvs ++ [v]) ?_ (h.rk.append (.cons rk .nil)) (h.rv.append (.cons rd .nil)) ⟨?_, ?_, by simp [ol]⟩ (by simp; omega) ?_
    · rw [storedH_new n2]
      exact kx.snoc rv
    · rw [storedH_new n2] at g6
      have e2 := (kx.snoc (k := k) (p := p) rv).keys
      rw [e2] at g6
      exact g6
    · rw [List.all_append, oa]
      simp [hk]
    · unfold dPut; rw [n1]
  · refine fin ks (ds.set i d) kvs (vvs.set i v) ?_ h.rk (RepL.set i h.rv rd) ⟨od, oa, by simp [ol]⟩ h2 ?_
    · rw [storedH_old n4]
      exact kx.put hk rv oa od n1
    · unfold dPut; rw [n1]
/-- a dict written to, as the heap says it -/
theorem stored_inv (hw : g.wd = X.w) (I : L2.Inv X pins σ H s) (sb : ∀ a o, F a = some o → H a = some o) (h : DHas X.K g F H a ep ks ds kvs vvs) {k d : D} {p : Addr} {v : V} {u : Value} (rk : Rep X.K g F k (.ref p)) (hk : k.keyOk = true) (rd : Rep X.K g F d v) (rv : L2.RelV v u) (hl : ks.length < sizeLine)
    {xs : List (NestedKey × Addr × Value)} (kx : KX ks kvs vvs xs) {h' : Heap} {tk : Nat} (dd' : h'.DictOfH (nestedKind X.prog X.w) a (storedH xs (keyOf k) p u)) (hs : Heap.SameBut a s.heap h') :
    ∃ ep' kvs' vvs', L2.Inv X pins σ (upd H a (dictHO a ep' (dEs g.wd (dPut ks ds k d).1 kvs' vvs'))) { s with heap := h', toks := tk } ∧ DHas X.K g F (upd H a (dictHO a ep' (dEs g.wd (dPut ks ds k d).1 kvs' vvs'))) a ep' (dPut ks ds k d).1 (dPut ks ds k d).2 kvs' vvs' := by
  obtain ⟨h1, h2, _⟩ := has_heap hw I sb h
  obtain ⟨o', es', ep', g1, g2, g3, g4, g5, g6⟩ := dd'
  have fin : ∀ ks' ds' kvs' vvs', KX ks' kvs' vvs' (storedH xs (keyOf k) p u) → RepL X.K g F ks' kvs' → RepL X.K g F ds' vvs' → DOk ks' ds' → ks'.length ≤ sizeLine → dPut ks ds k d = (ks', ds') →
      ∃ ep' kvs' vvs', L2.Inv X pins σ (upd H a (dictHO a ep' (dEs g.wd (dPut ks ds k d).1 kvs' vvs'))) { s with heap := h', toks := tk } ∧ DHas X.K g F (upd H a (dictHO a ep' (dEs g.wd (dPut ks ds k d).1 kvs' vvs'))) a ep' (dPut ks ds k d).1 (dPut ks ds k d).2 kvs' vvs' := by
    intro ks' ds' kvs' vvs' k1 k2 k3 k4 k5 k6
    rw [k6]
    have da : DictAt h' a ep' (dEs X.w ks' kvs' vvs') := ⟨h1, by rw [dEs_len k1.len.2.1 k1.len.2.2]; exact k5, o', es', g1, g2, g3, by rw [g4]; exact k1.rows⟩
    refine ⟨ep', kvs', vvs', ?_, ⟨upd_same, k2, k3, k4⟩⟩
    rw [hw]
    exact I.write (x := a) (e := a) (by rw [h.at_]; exact trivial) (.inl rfl) (fun b r hb z => (hs.2 b hb).trans z) ⟨o', g1⟩ (dict_ok da)
  obtain ⟨od, oa, ol⟩ := h.ok
  rcases kx.at_ hk oa with ⟨n1, n2⟩ | ⟨i, q', w', b, n1, n2, n3, n4⟩
  · refine fin (ks ++ [k]) (ds ++ [d]) (kvs ++ [V.ref p]) (vvs ++ [v]) ?_ (h.rk.append (.cons rk .nil)) (h.rv.append (.cons rd .nil)) ⟨?_, ?_, by simp [ol]⟩ (by simp; omega) ?_
    · rw [storedH_new n2]
      exact kx.snoc rv
    · rw [storedH_new n2] at g6
      have e2 := (kx.snoc (k := k) (p := p) rv).keys
      rw [e2] at g6
      exact g6
    · rw [List.all_append, oa]
      simp [hk]
    · unfold dPut; rw [n1]
  · refine fin ks (ds.set i d) kvs (vvs.set i v) ?_ h.rk (RepL.set i h.rv rd) ⟨od, oa, by simp [ol]⟩ h2 ?_
    · rw [storedH_old n4]
      exact kx.put hk rv oa od n1
    · unfold dPut; rw [n1]
theorem units8' {A : Around} (h : A.units + 65 < cLine) (prog : Program) (w : World) : (nestedKind prog w).room A := by
  show A.units + 8 < cLine
  omega
/-- one row put into a new dict by a display or a comprehension -/
theorem d_dset (hw : g.wd = X.w) (hu : X.A.units + 65 < cLine) (I : L2.Inv X pins σ H s) (sb : ∀ a o, F a = some o → H a = some o) (h : DHas X.K g F H a ep ks ds kvs vvs) {k d : D} {y v : V} {iv u : Value} (rk : Rep X.K g F k y) (hk : k.keyOk = true) (rd : Rep X.K g F d v) (ry : L2.RelV y iv) (rv : L2.RelV v u) (hl : ks.length < sizeLine) {E : Value → Shared → Prop} {Q : Unit → Shared → Prop}
    (hq : ∀ s' ep' kvs' vvs', L2.Inv X pins σ (upd H a (dictHO a ep' (dEs g.wd (dPut ks ds k d).1 kvs' vvs'))) s' → DHas X.K g F (upd H a (dictHO a ep' (dEs g.wd (dPut ks ds k d).1 kvs' vvs'))) a ep' (dPut ks ds k d).1 (dPut ks ds k d).2 kvs' vvs' → Q () s') :
    wpAny (model X.prog X.w) X.A (dictSet a iv u) Q E s := by
  obtain ⟨p, rfl, hp⟩ := key_is I sb hk rk
  obtain rfl : iv = .ref p := ry
  obtain ⟨h1, h2, xs, o, en, h3, h4, h5, kx, _, dd⟩ := has_heap hw I sb h
  have hsz : xs.length ≤ sizeLine := by rw [kx.len.1]; exact h2
  refine wpAny_dictSet_heap (hsz := hsz) (units8' hu _ _) hp dd fun h' dd' hs => ?_
  obtain ⟨ep', kvs', vvs', i1, i2⟩ := stored_inv hw I sb h rk hk rd rv hl kx dd' hs
  exact hq _ _ _ _ i1 i2
/-! ### list(d) -/
theorem KX.vals {ks : List D} {as bs : List V} {xs : List (NestedKey × Addr × Value)} (h : KX ks as bs xs) : L2.Vals as (xs.map fun x => Value.ref x.2.1) := by
  induction h with
  | nil => exact .nil
  | cons _ _ ih => exact .cons rfl ih
def rDList (K : PySem.W.Frag) (g : Tab) : List V → Hp → VK → Prop := fun xs H Q => ∃ F a ep ks ds kvs vvs, xs = [.ref a] ∧ (∀ a o, F a = some o → H a = some o) ∧ DHas K g F H a ep ks ds kvs vvs ∧ ∀ p, H p = none → Q (.ref p) (upd H p (.lst kvs))
theorem call_dlist (hw : g.wd = X.w) (hc : X.calm = true) : CallR X (.type "list") (rDList X.K g) := by
  intro pins s σ H xs us Q I r ⟨F, a, ep, ks, ds, kvs, vvs, e, sb, h, q⟩
  subst e
  obtain ⟨u, rfl, rx⟩ := vals1 r
  obtain rfl : u = .ref a := rx
  obtain ⟨h1, h2, xs, o, en, h3, h4, h5, kx, he, dd⟩ := has_heap hw I sb h
  have hl := kx.len.1
  have hsz : en.size = xs.length := by
    have := congrArg List.length he
    simpa using this
  refine PySem.W.kdl_call (PySem.KdlSrc.rawDict (es := en) (ep := ep) h1) (I.ok.hd hc) ⟨o, h3, h4, h5⟩ (by rw [hsz, hl]; exact h2) fun h' tk acc' c' hk hS hacc => ?_
  have ev : acc'.toList = xs.map fun x => Value.ref x.2.1 := by
    apply List.ext_getElem?
    intro i
    by_cases hi : i < en.size
    · have hi2 : i < acc'.size := by rw [hacc.1]; exact hi
      obtain ⟨_, e1⟩ := hacc.2 i acc'[i] (by rw [Array.getElem?_eq_getElem hi2])
      have e2 : en.toList[i]? = some en[i] := by simp [hi]
      rw [he, List.getElem?_map] at e2
      obtain ⟨x, g1, g2⟩ := Option.map_eq_some_iff.mp e2
      rw [List.getElem?_map, g1, Array.getElem?_toList, Array.getElem?_eq_getElem hi2, e1, ← g2]
      rfl
    · rw [List.getElem?_eq_none (by rw [Array.length_toList, hacc.1]; omega), List.getElem?_eq_none (by rw [List.length_map]; omega)]
  have rvs : L2.Vals kvs acc'.toList := by rw [ev]; exact kx.vals
  refine ⟨.ref _, upd H s.heap.objs.size (.lst kvs), I.laid (t' := tk) hk (Nat.le_refl _) ⟨by rw [kx.len.2.1]; exact h2, acc'.toList, c', rvs, ?_⟩, rfl, q _ (I.hok.fresh (Nat.le_refl _))⟩
  rw [hS]
/-! ### for k in d -/
/-- the keys of the dict at a, in their order -/
def ItD (a : Addr) (ep : Nat) (es : List (Int × V × V)) : It :=
  ⟨fun i H => H a = some (dictHO a ep es) ∧ i < es.length, fun i H x H' => H' = H ∧ ∃ e, es[i]? = some e ∧ x = e.2.1, fun i H => H a = some (dictHO a ep es) ∧ es.length ≤ i⟩
theorem dict_raw {es : List (Int × V × V)} (I : L2.Inv X pins σ H s) (h : H a = some (dictHO a ep es)) : (a == sysModules) = false ∧ ∃ en, s.heap.DictRaw a en ep ∧ en.size = es.length ∧ ∀ (i : Nat) e, es[i]? = some e → ∃ x, en[i]? = some x ∧ L2.RelV e.2.1 x.key := by
  obtain ⟨⟨h1, h2, o, en, h3, h4, h5, h6⟩, _, _⟩ := (show ObjOk X.prog X.w H s.heap a (dictHO a ep es) from I.hok a _ h)
  have hl := Paired.length h6
  refine ⟨h1, en, ⟨o, h3, h4, h5⟩, by rw [hl]; simp, fun i e he => ?_⟩
  obtain ⟨x, g1, g2⟩ := paired_get h6 he
  exact ⟨x, by rw [← Array.getElem?_toList]; exact g1, g2.2.1⟩
theorem raw_ep {h : Heap} {en en' : Array DictEntry} {ep ep' : Nat} (x : h.DictRaw a en ep) (y : h.DictRaw a en' ep') : en' = en ∧ ep' = ep := by
  obtain ⟨o, e1, _, e2⟩ := x
  obtain ⟨o', e3, _, e4⟩ := y
  rw [e1] at e3
  cases e3
  exact dict_ep e2 e4
theorem turn_d {P : Program} {w : World} {K : PySem.W.Frag} {tg : Expr} (a : Addr) (ep : Nat) (es : List (Int × V × V)) (it : Addr) : Turn P w K tg (ItD a ep es) [it] it (fun i h => h.IsKeyIter it a i es.length ep) where
  mem := by simp
  obj := fun i h st b hb => by
    have e : b = it := by simpa using hb
    subst e
    obtain ⟨oi, e, c, dd⟩ := st
    exact ⟨oi, e, fun v z => by rw [dd] at z; cases z⟩
  keep := fun i h h' st k => st.at fun oi e => k it (by simp) oi e
  item := by
    intro X hP hw hK hc i pins s σ H E I hf st hg
    subst hP hw hK
    obtain ⟨hd, hi⟩ := hg
    obtain ⟨f0, f1, f2, f3, f4, f5⟩ := hf it (by simp)
    obtain ⟨_, en, hraw, hsz, hen⟩ := dict_raw I hd
    obtain ⟨x, hx, rx⟩ := hen i es[i] (List.getElem?_eq_getElem hi)
    have hlt : i < en.size := by omega
    rw [Array.getElem?_eq_getElem hlt] at hx
    cases hx
    rw [← hsz] at st
    refine wpAny_pyNext_keys_item_raw st hraw hlt fun h' st' sb => ?_
    have I1 : L2.Inv X pins σ H { s with heap := h' } := I.turned (t' := s.toks) (fun b ob hb e => (sb.2 b hb).trans e) f0 f1 f3 f4 f5
    obtain ⟨oi, e, c, dd⟩ := id st'
    refine ⟨en[i].key, rfl, go_of (s := { s with heap := h' }) e c dd (by decide) ⟨(es[i]).2.1, H, I1, rx, ⟨rfl, es[i], List.getElem?_eq_getElem hi, rfl⟩, ?_, fun b hb => (hf b hb).1⟩⟩
    show h'.IsKeyIter it a (i + 1) es.length _
    rw [← hsz]
    exact st'
  done := by
    intro X hP hw hK hc i pins s σ H E I hf st hg
    subst hP hw hK
    obtain ⟨hd, hi⟩ := hg
    obtain ⟨f0, f1, f2, f3, f4, f5⟩ := hf it (by simp)
    obtain ⟨_, en, hraw, hsz, hen⟩ := dict_raw I hd
    rw [← hsz] at st
    exact wpAny_pyNext_keys_end_raw (I.ok.hd hc) st hraw (by omega) fun h' eb => ⟨rfl, I.turned (t' := s.toks) (fun b ob hb e => eb b ob hb e) f0 f1 f3 f4 f5⟩
  self := fun A i s Q E st h => wpAny_pyIter_keyiter st h
def iDct (te : TE) : TI := fun σ H R => te σ H fun x H1 => ∃ a ep es, x = .ref a ∧ H1 a = some (dictHO a ep es) ∧ R (ItD a ep es) H1
theorem pi_dct {tg e : Expr} {te : TE} (he : PE X e te) : PI X tg e (iDct te) := by
  refine ⟨fun pins s σ H R I h => ?_⟩
  refine thn (he.run pins s σ H _ I h) fun u s1 ⟨x, H1, I1, rx, a, ep, es, ex, hd, q⟩ => ?_
  subst ex
  obtain rfl : u = Value.ref a := rx
  obtain ⟨h1, en, hraw, hsz, _⟩ := dict_raw I1 hd
  refine wpAny_pyIter_dict_raw h1 hraw (pi_one (tk := s1.toks) I1 _ (turn_d a ep es _) ⟨_, Heap.get?_push_size _ rfl, rfl, ?_⟩ q)
  rw [hsz] <;> rfl
/-! ### {} -/
theorem dict_new {P : Program} {w : World} {H : Hp} (h : Heap) (hb : sysModules < h.objs.size) : ObjOk P w H (h.push { cls := .type "dict", data := .dict #[] }) h.objs.size (dictHO h.objs.size 0 []) := by
  refine dict_ok ⟨by rw [beq_eq_false_iff_ne]; exact Nat.ne_of_gt hb, Nat.zero_le _, _, #[], Heap.get?_push_size _ rfl, ⟨rfl, rfl, rfl⟩, rfl, .nil⟩
def tDNew : TE := fun _ H Q => ∀ p, H p = none → Q (.ref p) (upd H p (dictHO p 0 []))
end
end Fx

namespace Fx
open PySem PySem.Spec PyProof.Rows L2
theorem sizeL_eq : sizeL = sizeLine := by rw [sizeLine_eq]; rfl
theorem OpR.or {X : Cx} {f : Value → Value → Sem Value} {r r' : L2.R2} (h : OpR X f r) (h' : OpR X f r') : OpR X f (fun x y H Q => r x y H Q ∨ r' x y H Q) := by
  intro pins s σ H x y v u Q I rx ry q
  rcases q with q | q
  · exact h pins s σ H x y v u Q I rx ry q
  · exact h' pins s σ H x y v u Q I rx ry q
def opOf : Bop → Operator
  | .add => .Add
  | .sub => .Sub
  | .mul => .Mult
  | .fdiv => .FloorDiv
  | .mod => .Mod
  | .pow => .Pow
  | .shl => .LShift
  | .shr => .RShift
  | .and => .BitAnd
  | .or => .BitOr
  | .xor => .BitXor
section
variable {X : Cx}
def rBinI (op : Bop) : L2.R2 := fun x y H Q => ∃ i j k, x = .int i ∧ y = .int j ∧ binI op i j = .ok k ∧ Q (.int k) H
theorem op_binI (op : Bop) : OpR X (binaryOp (opOf op)) (rBinI op) := by
  intro pins s σ H x y v u Q I rx ry h
  obtain ⟨i, j, k, hx, hy, e, q⟩ := h
  cases op with
  | add => cases e; exact op_add pins s σ H x y v u Q I rx ry ⟨i, j, hx, hy, q⟩
  | sub => cases e; exact op_sub pins s σ H x y v u Q I rx ry ⟨i, j, hx, hy, q⟩
  | mul =>
    simp only [binI] at e
    split at e
    · rename_i hc
      cases e
      simp only [lim64, Bool.or_eq_true, decide_eq_true_eq] at hc
      exact op_mul pins s σ H x y v u Q I rx ry ⟨i, j, hx, hy, hc, q⟩
    · cases e
  | fdiv =>
    simp only [binI] at e
    split at e
    · rename_i hc
      cases e
      exact op_fdivW pins s σ H x y v u Q I rx ry ⟨i, j, hx, hy, wide_div (i := i) (b := 64) hc.1 (by omega) (by decide) (by decide), q⟩
    · cases e
  | mod =>
    simp only [binI] at e
    split at e
    · rename_i hc
      cases e
      exact op_mod pins s σ H x y v u Q I rx ry ⟨i, j, hx, hy, hc, q⟩
    · cases e
  | pow =>
    simp only [binI] at e
    split at e
    · rename_i hc
      cases e
      exact op_pow pins s σ H x y v u Q I rx ry ⟨i, j, hx, hy, hc, q⟩
    · cases e
  | shl =>
    simp only [binI] at e
    split at e
    · rename_i hc
      cases e
      exact op_shl pins s σ H x y v u Q I rx ry ⟨i, j, hx, hy, hc, q⟩
    · cases e
  | shr =>
    simp only [binI] at e
    split at e
    · rename_i hc
      cases e
      exact op_shr pins s σ H x y v u Q I rx ry ⟨i, j, hx, hy, hc, q⟩
    · cases e
  | and => cases e; exact op_and pins s σ H x y v u Q I rx ry ⟨i, j, hx, hy, q⟩
  | or => cases e; exact op_or pins s σ H x y v u Q I rx ry ⟨i, j, hx, hy, q⟩
  | xor => cases e; exact op_xor pins s σ H x y v u Q I rx ry ⟨i, j, hx, hy, q⟩
/-- a whole number times a truth, and the other way round -/
def rMulB : L2.R2 := fun x y H Q => (∃ b n, x = .bl b ∧ y = .int n ∧ Q (.int ((if b = true then (1 : Int) else 0) * n)) H) ∨ ∃ n b, x = .int n ∧ y = .bl b ∧ Q (.int (n * if b = true then (1 : Int) else 0)) H
theorem op_mulB : OpR X (binaryOp .Mult) rMulB := by
  intro pins s σ H x y v u Q I rx ry h
  rcases h with ⟨b, n, rfl, rfl, q⟩ | ⟨n, b, rfl, rfl, q⟩
  · cases rx
    obtain ⟨t, rfl⟩ := ry
    exact PySem.IntBool.mul_bool_int ⟨.int _, H, I.tok _, ⟨_, rfl⟩, q⟩
  · obtain ⟨t, rfl⟩ := rx
    cases ry
    exact PySem.IntBool.mul_int_bool ⟨.int _, H, I.tok _, ⟨_, rfl⟩, q⟩
def rBin (K : PySem.W.Frag) (op : Bop) : L2.R2 := fun x y H Q => rBinI op x y H Q ∨ (op = .add ∧ rCat x y H Q) ∨ (op = .add ∧ rCatA K x y H Q) ∨ (op = .mul ∧ rRep x y H Q) ∨ (op = .mul ∧ rMulB x y H Q)
theorem op_bin (op : Bop) : OpR X (binaryOp (opOf op)) (rBin X.K op) := by
  intro pins s σ H x y v u Q I rx ry h
  rcases h with h | ⟨e, h⟩ | ⟨e, h⟩ | ⟨e, h⟩ | ⟨e, h⟩
  · exact op_binI op pins s σ H x y v u Q I rx ry h
  · subst e; exact op_cat pins s σ H x y v u Q I rx ry h
  · subst e; exact op_catA pins s σ H x y v u Q I rx ry h
  · subst e; exact op_rep pins s σ H x y v u Q I rx ry h
  · subst e; exact op_mulB pins s σ H x y v u Q I rx ry h
end
section
variable {g : Tab} {xo : XO} {F0 H0 : Hp} {W : WX} {X : Cx} {e a b c : Expr} {pos : Pos} {fa fb fc : Env → R Val} {f : Env → R Val}
theorem se_bin {op : Bop} (ha : SE g xo F0 H0 W X a fa) (hb : SE g xo F0 H0 W X b fb) : SE g xo F0 H0 W X (.BinOp a (opOf op) b pos) (fun env => (fa env).bind fun x => (fb env).bind fun y => binop op x.2 y.2) := by
  refine se_op (op_bin op) (fun σ Q F H dx dy x y s r1 r2 p => ?_) ha hb
  cases dx with
  | int i =>
    cases dy with
    | int j =>
      cases r1.int
      cases r2.int
      simp only [binop] at p
      cases e : binI op i j with
      | ok k =>
        rw [e] at p
        exact .inl ⟨i, j, k, rfl, rfl, e, PostE.frz p s (Rep.mkI k)⟩
      | ex C fs => cases op <;> simp only [binI] at e <;> (first | (cases e; done) | (split at e <;> cases e))
      | no => rw [e] at p; exact p.elim
    | bl b =>
      cases op with
      | mul =>
        cases r1.int
        cases r2.bl
        exact .inr (.inr (.inr (.inr ⟨rfl, .inr ⟨i, b, rfl, rfl, PostE.frz p s (Rep.mkI _)⟩⟩)))
      | _ => exact p.elim
    | _ => exact p.elim
  | bl b =>
    cases dy with
    | int n =>
      cases op with
      | mul =>
        cases r1.bl
        cases r2.int
        exact .inr (.inr (.inr (.inr ⟨rfl, .inl ⟨b, n, rfl, rfl, PostE.frz p s (Rep.mkI _)⟩⟩)))
      | _ => exact p.elim
    | _ => exact p.elim
  | lst xs =>
    cases dy with
    | int n =>
      cases op with
      | mul =>
        simp only [binop] at p
        split at p
        · rename_i hz
          rw [Bool.and_eq_true, decide_eq_true_eq] at hz
          obtain ⟨a, vs, rfl, ha, ra⟩ := r1.lst s
          have hn : -(2 ^ 62) ≤ n ∧ n < 2 ^ 62 := by simpa [lim62] using hz.1
          refine .inr (.inr (.inr (.inl ⟨rfl, a, n, vs, rfl, r2.int, ha, by omega, by omega, ?_, fun q hq => ?_⟩)))
          · rw [ra.length, ← sizeL_eq]; exact hz.2
          · refine PostE.newL p s ?_ q hq
            have rep : ∀ m : Nat, RepL X.K g F (List.replicate m xs).flatten (List.replicate m vs).flatten := by
              intro m
              induction m with
              | zero => exact .nil
              | succ m ih => rw [List.replicate_succ, List.replicate_succ, List.flatten_cons, List.flatten_cons]; exact ra.append ih
            exact rep _
        · exact p.elim
      | _ => exact p.elim
    | lst ys =>
      cases op with
      | add =>
        simp only [binop] at p
        split at p
        · rename_i hz
          obtain ⟨a, vs, rfl, ha, ra⟩ := r1.lst s
          obtain ⟨b, ws, rfl, hb, rb⟩ := r2.lst s
          refine .inr (.inl ⟨rfl, a, b, vs, ws, rfl, rfl, ha, hb, ?_, fun q hq => ?_⟩)
          · rw [ra.length, rb.length, ← sizeL_eq]; exact hz.2.2
          · exact PostE.newL p s (ra.append rb) q hq
        · exact p.elim
      | _ => exact p.elim
    | _ => exact p.elim
  | tup xs =>
    cases dy with
    | tup ys =>
      cases op with
      | add =>
        simp only [binop] at p
        split at p
        · rename_i hz
          obtain ⟨a, vs, rfl, ha, ra, fa'⟩ := r1.tup s
          obtain ⟨b, ws, rfl, hb, rb, fb'⟩ := r2.tup s
          have r := ra.append rb
          refine .inr (.inr (.inl ⟨rfl, a, b, vs, ws, rfl, rfl, ha, hb, ?_, fun q0 => ?_, fun q1 q0 => ?_, fun q1 q2 q hq => ?_⟩))
          · rw [ra.length, rb.length, ← sizeL_eq]; exact hz.2.2
          · subst q0
            exact PostE.frz p s (Rep.mkT fb' (by simpa using r))
          · subst q0
            exact PostE.frz p s (Rep.mkT fa' (by simpa using r))
          · exact PostE.newT p s r q hq
        · exact p.elim
      | _ => exact p.elim
    | _ => exact p.elim
  | _ => exact p.elim

/-! ### comparisons -/
def copOf : Cop → CmpOp
  | .lt => .Lt
  | .le => .LtE
  | .gt => .Gt
  | .ge => .GtE
  | .eq => .Eq
  | .ne => .NotEq
  | .inn => .In
  | .nin => .NotIn
  | .isb => .Is
  | .isnb => .IsNot
mutual
def toP : D → PyData
  | .non => .none
  | .bl b => .bool b
  | .int i => .int i
  | .str s => .str s
  | .tup xs => .tuple (toPL xs)
  | .lst xs => .list (toPL xs)
  | .dct _ _ => .none
  | .st _ => .none
  | .scr _ => .none
  | .ins _ _ => .none
  | .exc _ _ => .none
def toPL : List D → List PyData
  | [] => []
  | x :: xs => toP x :: toPL xs
end
mutual
theorem toP_lay : ∀ d : D, d.dat = true → (toP d).canLay0 = true
  | .non, _ => by simp [toP, PyData.canLay0]
  | .bl b, _ => by simp [toP, PyData.canLay0]
  | .int i, _ => by simp [toP, PyData.canLay0]
  | .str s, h => by simp only [toP, PyData.canLay0]; exact h
  | .tup xs, h => by simp only [toP, PyData.canLay0]; exact toPL_lay xs (by simpa only [D.dat] using h)
  | .lst xs, h => by simp only [toP, PyData.canLay0]; exact toPL_lay xs (by simpa only [D.dat] using h)
  | .dct _ _, h => by simp [D.dat] at h
  | .st _, h => by simp [D.dat] at h
  | .scr _, h => by simp [D.dat] at h
  | .ins _ _, h => by simp [D.dat] at h
  | .exc _ _, h => by simp [D.dat] at h
theorem toPL_lay : ∀ ds : List D, D.datL ds = true → PyData.canLayAll0 (toPL ds) = true
  | [], _ => by simp [toPL, PyData.canLayAll0]
  | x :: xs, h => by
    simp only [D.datL, Bool.and_eq_true] at h
    simp only [toPL, PyData.canLayAll0, Bool.and_eq_true]
    exact ⟨toP_lay x h.1, toPL_lay xs h.2⟩
end
mutual
theorem toP_dep : ∀ d : D, (toP d).depth = d.dep
  | .non => by simp [toP, PyData.depth, D.dep]
  | .bl b => by simp [toP, PyData.depth, D.dep]
  | .int i => by simp [toP, PyData.depth, D.dep]
  | .str s => by simp [toP, PyData.depth, D.dep]
  | .tup xs => by simp only [toP, PyData.depth, D.dep, toPL_dep xs] <;> try omega
  | .lst xs => by simp only [toP, PyData.depth, D.dep, toPL_dep xs] <;> try omega
  | .dct _ _ => by simp [toP, PyData.depth, D.dep]
  | .st _ => by simp [toP, PyData.depth, D.dep]
  | .scr _ => by simp [toP, PyData.depth, D.dep]
  | .ins _ _ => by simp [toP, PyData.depth, D.dep]
  | .exc _ _ => by simp [toP, PyData.depth, D.dep]
theorem toPL_dep : ∀ ds : List D, PyData.depthAll (toPL ds) = D.depL ds
  | [] => by simp [toPL, PyData.depthAll, D.depL]
  | x :: xs => by simp only [toPL, PyData.depthAll, D.depL, toP_dep x, toPL_dep xs]
end
end
mutual
theorem toP_eqv : ∀ a b : D, a.dat = true → b.dat = true → PyData.eqv (toP a) (toP b) = D.eqv a b
  | .non, b, _, h => by cases b <;> first | (simp [D.dat] at h; done) | (simp [toP, PyData.eqv, D.eqv])
  | .bl x, b, _, h => by cases b <;> first | (simp [D.dat] at h; done) | (simp [toP, PyData.eqv, D.eqv])
  | .int x, b, _, h => by cases b <;> first | (simp [D.dat] at h; done) | (simp [toP, PyData.eqv, D.eqv])
  | .str x, b, _, h => by cases b <;> first | (simp [D.dat] at h; done) | (simp [toP, PyData.eqv, D.eqv])
  | .tup xs, b, h1, h => by
    cases b with
    | tup ys => simp only [toP, PyData.eqv, D.eqv]; exact toPL_eqv xs ys (by simpa only [D.dat] using h1) (by simpa only [D.dat] using h)
    | _ => first | (simp [D.dat] at h; done) | (simp [toP, PyData.eqv, D.eqv])
  | .lst xs, b, h1, h => by
    cases b with
    | lst ys => simp only [toP, PyData.eqv, D.eqv]; exact toPL_eqv xs ys (by simpa only [D.dat] using h1) (by simpa only [D.dat] using h)
    | _ => first | (simp [D.dat] at h; done) | (simp [toP, PyData.eqv, D.eqv])
  | .dct _ _, b, h, _ => by simp [D.dat] at h
  | .st _, b, h, _ => by simp [D.dat] at h
  | .scr _, b, h, _ => by simp [D.dat] at h
  | .ins _ _, b, h, _ => by simp [D.dat] at h
  | .exc _ _, b, h, _ => by simp [D.dat] at h
theorem toPL_eqv : ∀ as bs : List D, D.datL as = true → D.datL bs = true → PyData.eqvAll (toPL as) (toPL bs) = D.eqvL as bs
  | [], [], _, _ => by simp [toPL, PyData.eqvAll, D.eqvL]
  | [], _ :: _, _, _ => by simp [toPL, PyData.eqvAll, D.eqvL]
  | _ :: _, [], _, _ => by simp [toPL, PyData.eqvAll, D.eqvL]
  | a :: as, b :: bs, h1, h2 => by
    simp only [D.datL, Bool.and_eq_true] at h1 h2
    simp only [toPL, PyData.eqvAll, D.eqvL, toP_eqv a b h1.1 h2.1, toPL_eqv as bs h1.2 h2.2]
end
mutual
theorem Rep.dp {K : PySem.W.Frag} {g : Tab} {F H : Hp} (s : ∀ a o, F a = some o → H a = some o) : ∀ (d : D) (v : V), Rep K g F d v → d.dat = true → Dp K H v (toP d)
  | .non, v, r, _ => by rw [r.non]; simp only [toP]; exact .non
  | .bl b, v, r, _ => by rw [r.bl]; simp only [toP]; exact .bl b
  | .int i, v, r, _ => by rw [r.int]; simp only [toP]; exact .int i
  | .str x, v, r, _ => by rw [r.str]; simp only [toP]; exact .str x
  | .tup xs, v, r, h => by
    obtain ⟨a, vs, rfl, q, t⟩ := r.tup
    simp only [toP]
    exact .tup (SqT.mono s q) (RepL.dp s xs vs t (by simpa only [D.dat] using h))
  | .lst xs, v, r, h => by
    obtain ⟨a, vs, rfl, q, t⟩ := r.lst
    simp only [toP]
    exact .lst (SqL.of (s _ _ q)) (RepL.dp s xs vs t (by simpa only [D.dat] using h))
  | .dct _ _, v, r, h => by simp [D.dat] at h
  | .st _, v, r, h => by simp [D.dat] at h
  | .scr _, v, r, h => by simp [D.dat] at h
  | .ins _ _, v, r, h => by simp [D.dat] at h
  | .exc _ _, v, r, h => by simp [D.dat] at h
theorem RepL.dp {K : PySem.W.Frag} {g : Tab} {F H : Hp} (s : ∀ a o, F a = some o → H a = some o) : ∀ (ds : List D) (vs : List V), RepL K g F ds vs → D.datL ds = true → DpAll K H vs (toPL ds)
  | [], vs, r, _ => by rw [r.inv0]; simp only [toPL]; exact .nil
  | d :: ds, vs, r, h => by
    obtain ⟨v, w, rfl, r1, r2⟩ := r.inv
    simp only [D.datL, Bool.and_eq_true] at h
    simp only [toPL]
    exact .cons (Rep.dp s d v r1 h.1) (RepL.dp s ds w r2 h.2)
end
theorem RD.dp {K : PySem.W.Frag} {g : Tab} {F H : Hp} {d : D} {v : V} (r : RD K g F H d v) (s : ∀ a o, F a = some o → H a = some o) (h : d.dat = true) : Dp K H v (toP d) := by
  rcases r with r | ⟨p, rfl, o⟩
  · exact Rep.dp s d v r h
  · cases d with
    | lst xs =>
      obtain ⟨vs, q, t⟩ := o
      simp only [toP]
      exact .lst (SqL.of q) (RepL.dp s xs vs t (by simpa only [D.dat] using h))
    | ins C fs => simp [D.dat] at h
    | dct _ _ => simp [D.dat] at h
    | _ => exact o.elim
theorem toP_shaped {d : D} (h : d.cmpOk = true) : SeqAt.shaped (toP d) = true := by
  simp only [D.cmpOk, Bool.and_eq_true, decide_eq_true_eq] at h
  simp only [SeqAt.shaped, Bool.and_eq_true, decide_eq_true_eq]
  exact ⟨toP_lay d h.1, by rw [toP_dep]; omega⟩
theorem toPL_any (x : D) (hx : x.dat = true) : ∀ ys : List D, D.datL ys = true → ((toPL ys).any fun z => PyData.eqv z (toP x)) = ys.any fun z => D.eqv z x
  | [], _ => by simp [toPL]
  | y :: ys, h => by
    simp only [D.datL, Bool.and_eq_true] at h
    simp only [toPL, List.any_cons, toP_eqv y x h.1 hx, toPL_any x hx ys h.2]
section
variable {X : Cx}
def rInTD (K : PySem.W.Frag) : L2.R2 := fun x y H Q => ∃ d ds, Dp K H x d ∧ Dp K H y (.tuple ds) ∧ SeqAt.shaped d = true ∧ SeqAt.shaped (.tuple ds) = true ∧ Q (.bl (ds.any fun z => PyData.eqv z d)) H
def rNotInTD (K : PySem.W.Frag) : L2.R2 := fun x y H Q => ∃ d ds, Dp K H x d ∧ Dp K H y (.tuple ds) ∧ SeqAt.shaped d = true ∧ SeqAt.shaped (.tuple ds) = true ∧ Q (.bl (!ds.any fun z => PyData.eqv z d)) H
theorem room_inT {A : Around} {d : PyData} {ds : List PyData} (h : SeqAt.shaped d = true) (hu : A.units + 65 < cLine) : A.units + 1 + min (PyData.depthAll ds) d.depth < cLine := by
  have h1 := SeqAt.depth_of_shaped h
  have h2 := Nat.min_le_right (PyData.depthAll ds) d.depth
  omega
theorem op_inTD (hu : X.A.units + 65 < cLine) : OpR X (compareOp .In) (rInTD X.K) := by
  intro pins s σ H x y v u Q I rx ry h
  obtain ⟨d, ds, hd, he, sd, se, q⟩ := h
  obtain ⟨as, r1⟩ := Dp.reads I d x v hd rx
  obtain ⟨bs, r2⟩ := Dp.reads I (.tuple ds) y u he ry
  exact SeqAt.in_tuple_reads r2 r1 (SeqAt.canLay_of_shaped se) (SeqAt.canLay_of_shaped sd) (room_inT sd hu) ⟨.bl _, H, I, rfl, q⟩
theorem op_notInTD (hu : X.A.units + 65 < cLine) : OpR X (compareOp .NotIn) (rNotInTD X.K) := by
  intro pins s σ H x y v u Q I rx ry h
  obtain ⟨d, ds, hd, he, sd, se, q⟩ := h
  obtain ⟨as, r1⟩ := Dp.reads I d x v hd rx
  obtain ⟨bs, r2⟩ := Dp.reads I (.tuple ds) y u he ry
  exact SeqAt.notIn_tuple_reads r2 r1 (SeqAt.canLay_of_shaped se) (SeqAt.canLay_of_shaped sd) (room_inT sd hu) ⟨.bl _, H, I, rfl, q⟩
def rCmpI (op : Cop) : L2.R2 := fun x y H Q => ∃ i j b, x = .int i ∧ y = .int j ∧ cmpI op i j = .ok b ∧ Q (.bl b) H
theorem op_cmpI (op : Cop) : OpR X (compareOp (copOf op)) (rCmpI op) := by
  intro pins s σ H x y v u Q I rx ry h
  obtain ⟨i, j, b, rfl, rfl, e, q⟩ := h
  obtain ⟨t, rfl⟩ := rx
  obtain ⟨t', rfl⟩ := ry
  have fin : EP X pins σ Q (.bool b) s := ⟨.bl b, H, I, rfl, q⟩
  cases op with
  | lt => cases e; exact lt_int fin
  | le => cases e; exact le_int fin
  | gt => cases e; exact gt_int fin
  | ge => cases e; exact ge_int fin
  | eq => cases e; exact eq_int (by rw [Bool.beq_eq_decide_eq]; exact fin)
  | ne => cases e; exact ne_int (by rw [bne, Bool.beq_eq_decide_eq]; exact fin)
  | inn => cases e
  | nin => cases e
  | isb => cases e
  | isnb => cases e
/-- all that cmpop says -/
def rCop (K : PySem.W.Frag) (g : Tab) (op : Cop) : L2.R2 := fun x y H Q => match op with
  | .eq => rEq x y H Q ∨ rEqD K x y H Q
  | .ne => rNe x y H Q ∨ rNeD K x y H Q
  | .inn => rInD K x y H Q ∨ rInTD K x y H Q ∨ rDIn K g false x y H Q
  | .nin => rNotInD K x y H Q ∨ rNotInTD K x y H Q ∨ rDIn K g true x y H Q
  | .isb => rIsB x y H Q
  | .isnb => rNotB x y H Q
  | op => rCmpI op x y H Q
theorem op_cop {g : Tab} (hw : g.wd = X.w) (op : Cop) (hu : X.A.units + 65 < cLine) : OpR X (compareOp (copOf op)) (rCop X.K g op) := by
  intro pins s σ H x y v u Q I rx ry h
  cases op with
  | eq =>
    rcases h with h | h
    · exact op_eq pins s σ H x y v u Q I rx ry h
    · exact op_eqD (by omega) pins s σ H x y v u Q I rx ry h
  | ne =>
    rcases h with h | h
    · exact op_ne pins s σ H x y v u Q I rx ry h
    · exact op_neD (by omega) pins s σ H x y v u Q I rx ry h
  | inn =>
    rcases h with h | h | h
    · exact op_inD hu pins s σ H x y v u Q I rx ry h
    · exact op_inTD hu pins s σ H x y v u Q I rx ry h
    · exact op_din hw hu pins s σ H x y v u Q I rx ry h
  | nin =>
    rcases h with h | h | h
    · exact op_notInD hu pins s σ H x y v u Q I rx ry h
    · exact op_notInTD hu pins s σ H x y v u Q I rx ry h
    · exact op_dnin hw hu pins s σ H x y v u Q I rx ry h
  | isb => exact op_isBl pins s σ H x y v u Q I rx ry h
  | isnb => exact op_notBl pins s σ H x y v u Q I rx ry h
  | lt => exact op_cmpI .lt pins s σ H x y v u Q I rx ry h
  | le => exact op_cmpI .le pins s σ H x y v u Q I rx ry h
  | gt => exact op_cmpI .gt pins s σ H x y v u Q I rx ry h
  | ge => exact op_cmpI .ge pins s σ H x y v u Q I rx ry h
theorem eqOp_cases {x y : D} {b : Bool} (h : eqOp x y = .ok b) : (∃ s t, x = .str s ∧ y = .str t ∧ b = (s == t)) ∨ (x.cmpOk = true ∧ y.cmpOk = true ∧ b = D.eqv x y) := by
  unfold eqOp at h
  split at h
  · left; cases h; exact ⟨_, _, rfl, rfl, rfl⟩
  · split at h
    · rename_i hc
      rw [Bool.and_eq_true] at hc
      cases h
      exact .inr ⟨hc.1, hc.2, rfl⟩
    · cases h
theorem eqOp_ex {x y : D} {C : Nat} {fs : List D} : eqOp x y ≠ .ex C fs := by
  intro h
  unfold eqOp at h
  split at h
  · cases h
  · split at h <;> cases h
theorem inOp_cases {x y : D} {b : Bool} (h : inOp x y = .ok b) : (∃ ys, y = .lst ys ∧ x.cmpOk = true ∧ (D.lst ys).cmpOk = true ∧ b = ys.any fun z => D.eqv z x) ∨ (∃ ys, y = .tup ys ∧ x.cmpOk = true ∧ (D.tup ys).cmpOk = true ∧ b = ys.any fun z => D.eqv z x) ∨ ∃ ks ds, y = .dct ks ds ∧ x.keyOk = true ∧ b = (dIx ks x).isSome := by
  unfold inOp at h
  split at h
  · split at h
    · rename_i hc
      rw [Bool.and_eq_true] at hc
      cases h
      exact .inl ⟨_, rfl, hc.1, hc.2, rfl⟩
    · cases h
  · split at h
    · rename_i hc
      rw [Bool.and_eq_true] at hc
      cases h
      exact .inr (.inl ⟨_, rfl, hc.1, hc.2, rfl⟩)
    · cases h
  · split at h
    · rename_i hc
      cases h
      exact .inr (.inr ⟨_, _, rfl, hc, rfl⟩)
    · cases h
  · cases h
theorem inOp_ex {x y : D} {C : Nat} {fs : List D} : inOp x y ≠ .ex C fs := by
  intro h
  unfold inOp at h
  split at h
  · split at h <;> cases h
  · split at h <;> cases h
  · split at h <;> cases h
  · cases h
theorem cmpI_ex {op : Cop} {i j : Int} {C : Nat} {fs : List D} : cmpI op i j ≠ .ex C fs := by
  intro h
  cases op <;> cases h
theorem cmpop_ex {op : Cop} {x y : D} {C : Nat} {fs : List D} : cmpop op x y ≠ .ex C fs := by
  intro h
  cases op with
  | eq => exact eqOp_ex h
  | ne =>
    simp only [cmpop] at h
    cases e : eqOp x y with
    | ok b => rw [e] at h; cases h
    | ex C fs => exact eqOp_ex e
    | no => rw [e] at h; cases h
  | inn => exact inOp_ex h
  | nin =>
    simp only [cmpop] at h
    cases e : inOp x y with
    | ok b => rw [e] at h; cases h
    | ex C fs => exact inOp_ex e
    | no => rw [e] at h; cases h
  | isb => simp only [cmpop] at h; split at h <;> cases h
  | isnb => simp only [cmpop] at h; split at h <;> cases h
  | _ =>
    simp only [cmpop] at h
    split at h
    · exact cmpI_ex h
    · cases h
theorem cmp_dat {d : D} (h : d.cmpOk = true) : d.dat = true := by
  simp only [D.cmpOk, Bool.and_eq_true] at h
  exact h.1
theorem rCop_of {g : Tab} {op : Cop} {Q : VK} {F H : Hp} {dx dy : D} {x y : V} {z : Bool} (s : ∀ a o, F a = some o → H a = some o) (r1 : RD X.K g F H dx x) (r2 : RD X.K g F H dy y) (e : cmpop op dx dy = .ok z) (q : Q (.bl z) H) : rCop X.K g op x y H Q := by
  have hInts : ∀ op : Cop, (∀ x y, cmpop op x y = match x, y with | .int i, .int j => cmpI op i j | _, _ => .no) → cmpop op dx dy = .ok z → rCmpI op x y H Q := fun op hop e => by
    rw [hop] at e
    split at e
    · exact ⟨_, _, z, r1.int, r2.int, e, q⟩
    · cases e
  cases op with
  | eq =>
    rcases eqOp_cases e with ⟨a, b, rfl, rfl, rfl⟩ | ⟨h1, h2, rfl⟩
    · left
      cases r1.str
      cases r2.str
      exact ⟨rfl, by rw [dec_str]; exact q⟩
    · right
      exact ⟨_, _, r1.dp s (cmp_dat h1), r2.dp s (cmp_dat h2), toP_shaped h1, toP_shaped h2, by rw [toP_eqv _ _ (cmp_dat h1) (cmp_dat h2)]; exact q⟩
  | ne =>
    simp only [cmpop] at e
    cases e1 : eqOp dx dy with
    | ex C fs => exact absurd e1 eqOp_ex
    | no => rw [e1] at e; cases e
    | ok b =>
      rw [e1] at e
      cases e
      rcases eqOp_cases e1 with ⟨a, b, rfl, rfl, rfl⟩ | ⟨h1, h2, rfl⟩
      · left
        cases r1.str
        cases r2.str
        exact ⟨rfl, by rw [dec_str]; exact q⟩
      · right
        exact ⟨_, _, r1.dp s (cmp_dat h1), r2.dp s (cmp_dat h2), toP_shaped h1, toP_shaped h2, by rw [toP_eqv _ _ (cmp_dat h1) (cmp_dat h2)]; exact q⟩
  | inn =>
    rcases inOp_cases e with ⟨ys, rfl, h1, h2, rfl⟩ | ⟨ys, rfl, h1, h2, rfl⟩ | ⟨ks, ds, rfl, h1, rfl⟩
    · left
      have sh := toP_shaped h2
      have dp := r2.dp s (cmp_dat h2)
      simp only [toP] at sh dp
      exact ⟨_, _, r1.dp s (cmp_dat h1), dp, toP_shaped h1, sh, by rw [toPL_any _ (cmp_dat h1) _ (by simpa only [D.dat] using cmp_dat h2)]; exact q⟩
    · right; left
      have sh := toP_shaped h2
      have dp := r2.dp s (cmp_dat h2)
      simp only [toP] at sh dp
      exact ⟨_, _, r1.dp s (cmp_dat h1), dp, toP_shaped h1, sh, by rw [toPL_any _ (cmp_dat h1) _ (by simpa only [D.dat] using cmp_dat h2)]; exact q⟩
    · obtain ⟨a, ep, kvs, vvs, rfl, hh⟩ := r2.has s
      exact .inr (.inr ⟨F, a, ep, ks, ds, kvs, vvs, dx, rfl, s, hh, r1.key h1, h1, q⟩)
  | nin =>
    simp only [cmpop] at e
    cases e1 : inOp dx dy with
    | ex C fs => exact absurd e1 inOp_ex
    | no => rw [e1] at e; cases e
    | ok b =>
      rw [e1] at e
      cases e
      rcases inOp_cases e1 with ⟨ys, rfl, h1, h2, rfl⟩ | ⟨ys, rfl, h1, h2, rfl⟩ | ⟨ks, ds, rfl, h1, rfl⟩
      · left
        have sh := toP_shaped h2
        have dp := r2.dp s (cmp_dat h2)
        simp only [toP] at sh dp
        exact ⟨_, _, r1.dp s (cmp_dat h1), dp, toP_shaped h1, sh, by rw [toPL_any _ (cmp_dat h1) _ (by simpa only [D.dat] using cmp_dat h2)]; exact q⟩
      · right; left
        have sh := toP_shaped h2
        have dp := r2.dp s (cmp_dat h2)
        simp only [toP] at sh dp
        exact ⟨_, _, r1.dp s (cmp_dat h1), dp, toP_shaped h1, sh, by rw [toPL_any _ (cmp_dat h1) _ (by simpa only [D.dat] using cmp_dat h2)]; exact q⟩
      · obtain ⟨a, ep, kvs, vvs, rfl, hh⟩ := r2.has s
        exact .inr (.inr ⟨F, a, ep, ks, ds, kvs, vvs, dx, rfl, s, hh, r1.key h1, h1, q⟩)
  | isb =>
    simp only [cmpop] at e
    split at e
    · cases e; exact ⟨_, _, r1.bl, r2.bl, q⟩
    · cases e
  | isnb =>
    simp only [cmpop] at e
    split at e
    · cases e; exact ⟨_, _, r1.bl, r2.bl, q⟩
    · cases e
  | lt => exact hInts .lt (fun _ _ => rfl) e
  | le => exact hInts .le (fun _ _ => rfl) e
  | gt => exact hInts .gt (fun _ _ => rfl) e
  | ge => exact hInts .ge (fun _ _ => rfl) e
end
section
variable {g : Tab} {xo : XO} {F0 H0 : Hp} {W : WX} {X : Cx} {e a b c : Expr} {pos : Pos} {fa fb fc : Env → R Val} {f : Env → R Val}
theorem se_cop {op : Cop} (hw : g.wd = X.w) (hu : X.A.units + 65 < cLine) (hm : behindInMarks (copOf op) b = false) (ha : SE g xo F0 H0 W X a fa) (hb : SE g xo F0 H0 W X b fb) :
    SE g xo F0 H0 W X (.Compare a [copOf op] [b] pos) (fun env => (fa env).bind fun x => (fb env).bind fun y => (cmpop op x.2 y.2).bind fun r => R.ok (Mode.frz, D.bl r)) ∧
      STs g xo F0 H0 W X (.Compare a [copOf op] [b] pos) (fun env => ((fa env).bind fun x => (fb env).bind fun y => (cmpop op x.2 y.2).bind fun r => R.ok (Mode.frz, D.bl r)).bind fun v => asB v.2) :=
  se_cmp (op_cop hw op hu) (fun Q F H dx dy x y z s r1 r2 e q => rCop_of s r1 r2 e q) (fun _ _ _ _ => cmpop_ex) hm ha hb
end
end Fx

namespace Fx
open PySem PySem.Spec PyProof.Rows L2

/-- what a def promises that is φ of its n arguments -/
def spOf (K : PySem.W.Frag) (g : Tab) (φ : Sem') : Sp := fun vs H Q E => ∃ F mvs, (∀ a o, F a = some o → H a = some o) ∧ AReps K g H F H mvs vs ∧ match φ mvs with
  | .ok mv => ∀ v F' H', Ext F H F' H' → RRep K g H F' H' mv v → Q v H'
  | .ex C fs => ∀ dx F' H', Ext F H F' H' → XRep K g H F' H' C fs dx → E (.ref (g.xa C)) dx H'
  | .no => False
structure CallOk (g : Tab) (X : Cx) (k : Nat) (x : Str) (φ : Sem') : Prop where
  ex : ∃ f fd ps j, j ≤ k ∧ FnOk X.prog X.w X.K X.mg X.base (L2.CX X.prog X.w) j f fd ps (spOf X.K g φ) ∧ X.mg x = some (.ref f) ∧ PySem.W.keepIn X.K (.ref f) = true ∧ Binds X.K fd ps []

section
variable {g : Tab} {xo : XO} {F0 H0 : Hp} {W : WX} {X : Cx} {e a b c : Expr} {es : List Expr} {pos p apos : Pos} {fa fb fc f : Env → R Val} {fs : Env → R (List Val)} {ft : Env → R Bool}

theorem st_plain (h : SE g xo F0 H0 W X e f) (he : ∀ whole, isTrue e X.env whole = (do let v ← whole; standAt e.pos; holding [v] (truthy v))) : STs g xo F0 H0 W X e (fun env => (f env).bind fun v => asB v.2) := by
  refine (pt_val h he).imp fun σ H Q ⟨F, env, R0, p⟩ => ?_
  refine bindE (postT_ok Q) R0 p fun mv v F1 H1 e1 a1 R1 p1 => ?_
  have z := a1.rd
  rw [pas_snd] at z
  cases q : mv.2 with
  | bl b =>
    rw [q] at z p1
    cases z.bl
    exact ⟨b, rfl, p1 F1 H1 (Ext.refl R1.ext.sub)⟩
  | _ => rw [q] at p1; exact p1.elim

/-! ### arguments -/
theorem sa_nil : SA g xo F0 H0 W X [] (fun _ => .ok []) :=
  (pa_nil (X := X)).imp fun σ H Q ⟨F, env, R0, p⟩ => p [] F H (Ext.refl R0.ext.sub) .nil
theorem sa_cons (ha : SE g xo F0 H0 W X e fa) (hr : SA g xo F0 H0 W X es fs) (hs : starEach (e :: es) X.env = (false, PySem.eval e X.env) :: starEach es X.env) :
    SA g xo F0 H0 W X (e :: es) (fun env => (fa env).bind fun v => (fs env).bind fun vs => .ok (pas v :: vs)) := by
  refine (pa_cons ha hr hs).imp fun σ H Q ⟨F, env, R0, p⟩ => ?_
  refine bindE (postA_ok Q) R0 p fun mv v F1 H1 e1 a1 R1 p1 => ?_
  refine bindA (postA_ok Q) R1 p1 fun mvs vs F2 H2 e2 a2 R2 p2 => ?_
  exact p2 (v :: vs) F2 H2 (Ext.refl R2.ext.sub) (.cons (a1.stop e2) a2)
theorem esc_rep {K : PySem.W.Frag} {F H : Hp} {mv : Val} {v : V} {d : D} (h : ARep K g H0 F H mv v) (e : esc mv = .ok d) : Rep K g F d v := by
  obtain ⟨m, d'⟩ := mv
  cases m with
  | frz => cases e; exact h
  | own => exact h.elim
  | bor => cases e
  | lnt => cases e
theorem mapR_esc {K : PySem.W.Frag} {F H : Hp} {mvs : List Val} {vs : List V} (h : AReps K g H0 F H mvs vs) : ∀ {ds : List D}, mapR esc mvs = .ok ds → RepL K g F ds vs := by
  induction h with
  | nil => intro ds e; cases e; exact .nil
  | @cons mv v mvs vs h1 h2 ih =>
    intro ds e
    simp only [mapR] at e
    cases q : esc mv with
    | ok d =>
      rw [q, R.bind_ok] at e
      cases q2 : mapR esc mvs with
      | ok ds' => rw [q2, R.bind_ok] at e; cases e; exact .cons (esc_rep h1 q) (ih q2)
      | ex C fs => rw [q2] at e; cases e
      | no => rw [q2] at e; cases e
    | ex C fs => rw [q] at e; cases e
    | no => rw [q] at e; cases e
theorem esc_ex {mv : Val} {C : Nat} {fs : List D} : esc mv ≠ .ex C fs := by
  obtain ⟨m, d⟩ := mv
  cases m <;> intro h <;> cases h
theorem mapR_esc_ex {C : Nat} {fs : List D} : ∀ {mvs : List Val}, mapR esc mvs ≠ .ex C fs
  | [], h => by cases h
  | mv :: mvs, h => by
    simp only [mapR] at h
    cases q : esc mv with
    | ok d =>
      rw [q, R.bind_ok] at h
      cases q2 : mapR esc mvs with
      | ok ds' => rw [q2] at h; cases h
      | ex C fs => exact mapR_esc_ex q2
      | no => rw [q2] at h; cases h
    | ex C fs => exact esc_ex q
    | no => rw [q] at h; cases h
theorem se_tup {k : Nat} (ha : SA g xo F0 H0 W X es fs) : SE g xo F0 H0 W X (.Tuple es k pos) (fun env => (fs env).bind fun vs => (mapR esc vs).bind fun ds => if ds.length ≤ sizeL then .ok (.frz, .tup ds) else .no) := by
  refine (pe_tup ha).imp fun σ H Q ⟨F, env, R0, p⟩ => ?_
  refine bindA (postE_ok Q) R0 p fun mvs vs F1 H1 e1 a1 R1 p1 => ?_
  cases q : mapR esc mvs with
  | ok ds =>
    rw [q, R.bind_ok] at p1
    have r := mapR_esc a1 q
    split at p1
    · rename_i hz
      exact ⟨by rw [r.length, ← sizeL_eq]; exact hz, fun t ht => PostE.newT p1 R1.ext.sub r t ht⟩
    · exact p1.elim
  | ex C fs => exact absurd q mapR_esc_ex
  | no => rw [q] at p1; exact p1.elim
theorem se_lst (ha : SA g xo F0 H0 W X es fs) : SE g xo F0 H0 W X (.List es pos) (fun env => (fs env).bind fun vs => (mapR esc vs).bind fun ds => if ds.length ≤ sizeL then .ok (.own, .lst ds) else .no) := by
  refine (pe_lst ha).imp fun σ H Q ⟨F, env, R0, p⟩ => ?_
  refine bindA (postE_ok Q) R0 p fun mvs vs F1 H1 e1 a1 R1 p1 => ?_
  cases q : mapR esc mvs with
  | ok ds =>
    rw [q, R.bind_ok] at p1
    have r := mapR_esc a1 q
    split at p1
    · rename_i hz
      exact ⟨by rw [r.length, ← sizeL_eq]; exact hz, fun t ht => PostE.newL p1 R1.ext.sub r t ht⟩
    · exact p1.elim
  | ex C fs => exact absurd q mapR_esc_ex
  | no => rw [q] at p1; exact p1.elim

/-! ### calls -/
theorem sp_of {φ : Sem'} {mvs : List Val} {vs : List V} {σ : L2.St} {F H : Hp} {Q : VK} (s : ∀ a o, F a = some o → H a = some o) (a : AReps X.K g H F H mvs vs) (p : PostE X.K g H0 W σ Q F H (φ mvs)) :
    spOf X.K g φ vs H Q (WE W σ) := by
  refine ⟨F, mvs, s, a, ?_⟩
  cases q : φ mvs with
  | ok mv => rw [q] at p; exact fun v F' H' e r => p v F' H' e r.vrep
  | ex C fs => rw [q] at p; exact p
  | no => rw [q] at p; exact p
theorem se_call {x : Str} {φ : Sem'} {k : Nat} (c : CallOk g X k x φ) (hr : Room k X.A) (tk : Takes X W) (hg : Gl X x) (hdb : (x == ("__debug__" : Str)) = false) (ha : SA g xo F0 H0 W X es fs)
    (he : es = [] ∨ ∃ e es', es = e :: es' ∧ starEach (e :: es') X.env = (false, PySem.eval e X.env) :: starEach es' X.env ∧ (backTo pos (starEach es' X.env)).any (·.1) = false) (h0 : es = [] → ∀ env, fs env = .ok []) :
    SE g xo F0 H0 W X (.Call (.Name x p) es [] pos) (fun env => (fs env).bind fun vs => φ (vs.map toArg)) := by
  obtain ⟨f, fd, ps, j, hj, Fo, hm, hk, hb⟩ := c.ex
  have hr' := hr.mono hj
  rcases he with rfl | ⟨e, es', rfl, he, hpl⟩
  · refine ⟨fun pins s σ H Q I ⟨F, env, R0, p⟩ => ?_⟩
    simp only [h0 rfl, R.bind_ok] at p
    refine wpAny_Call_Name_kw (ld_glob I hg hm ?_ hdb)
    exact PySem.W.callWith_K0 I.kIn hk (run_fnS Fo hr' hb (passAt tk σ) I .nil (sp_of R0.ext.sub .nil p))
  · refine (pe_callS Fo hr' hg hm hk hb (fun σ => passAt tk σ) ha hdb he hpl).imp fun σ H Q ⟨F, env, R0, p⟩ => ?_
    exact bindA (postE_ok Q) R0 p fun mvs vs F1 H1 e1 a1 R1 p1 => sp_of R1.ext.sub a1.arg p1
/-- a method of the class -/
structure MethOk (g : Tab) (X : Cx) (k : Nat) (C : Nat) (m : Str) (φ : Sem') : Prop where
  ex : ∃ f fd ps j, j ≤ k ∧ FnOk X.prog X.w X.K X.mg X.base (L2.CX X.prog X.w) j f fd ps (spOf X.K g φ) ∧ Cls X.K (g.ca C) ∧ Meth X.K (g.ca C) m f ∧ Binds X.K fd ps [] ∧ (g.cf C).contains m = false
theorem zip_no {ks : List Str} {vs : List V} {m : Str} (h : ks.contains m = false) : (ks.zip vs).lookup m = none := by
  induction ks generalizing vs with
  | nil => rfl
  | cons a ks ih =>
    cases vs with
    | nil => rfl
    | cons v vs =>
      simp only [List.contains_cons, Bool.or_eq_false_iff] at h
      rw [List.zip_cons_cons, List.lookup_cons, h.1]
      exact ih h.2
theorem asIns_ok {C : Nat} {d : D} {fs : List D} (h : asIns C d = .ok fs) : d = .ins C fs := by
  unfold asIns at h
  split at h
  · split at h
    · rename_i hc; subst hc; cases h; rfl
    · cases h
  · cases h
theorem asIns_ex {C C' : Nat} {d : D} {fs : List D} : asIns C d ≠ .ex C' fs := by
  intro h
  unfold asIns at h
  split at h
  · split at h <;> cases h
  · cases h
/-- what follows when x is an instance of C -/
theorem post_ins {C : Nat} {d : D} {β : Type} {Post : Hp → Hp → R β → Prop} {σ : L2.St} {k : List D → R β} {F H : Hp} (P : PostOk X.K g W σ Post) (p : Post F H ((asIns C d).bind k)) : ∃ fs, d = .ins C fs ∧ Post F H (k fs) := by
  cases q : asIns C d with
  | ok fs => rw [q, R.bind_ok] at p; exact ⟨fs, asIns_ok q, p⟩
  | ex C' fs => exact absurd q asIns_ex
  | no => rw [q] at p; exact (P.no _ _ p).elim
theorem se_meth {C : Nat} {m : Str} {φ : Sem'} {k : Nat} {pl : Sem Bool} (c : MethOk g X k C m φ) (hr : Room k X.A) (tk : Takes X W) (ho : SE g xo F0 H0 W X a fa) (ha : SA g xo F0 H0 W X es fs)
    (he : es = [] ∨ ∃ e es', es = e :: es' ∧ starEach (e :: es') X.env = (false, PySem.eval e X.env) :: starEach es' X.env ∧ (backTo pos (starEach es' X.env)).any (·.1) = false) (h0 : es = [] → ∀ env, fs env = .ok [])
    (ht : PySem.eval (.Call (.Attribute a m apos) es [] pos) X.env = (do
      let ov ← PySem.eval a X.env
      standAt apos.atName
      let (f, first) ← holding [ov] (getMethod ov m pl)
      callWith pos f first (backTo pos (starEach es X.env)) (backToKw pos (keywordEach [] X.env)))) :
    SE g xo F0 H0 W X (.Call (.Attribute a m apos) es [] pos) (fun env => (fa env).bind fun x => (asIns C x.2).bind fun _ => (fs env).bind fun vs => φ (toArg (pas x) :: vs.map toArg)) := by
  obtain ⟨f, fd, ps, j, hj, Fo, hc, hm, hb, hn⟩ := c.ex
  have hr' := hr.mono hj
  refine ⟨fun pins s σ H Q I ⟨F, env, R0, p⟩ => ?_⟩
  refine PySem.W.methodCall_KW (pl := pl) (thn (ho.run pins s σ H (fun v H1 => ∃ F1 mv fs', RD X.K g F1 H1 (.ins C fs') v ∧ ARep X.K g H0 F1 H1 (pas mv) v ∧ FRel X.K g xo F0 H0 F1 H1 σ env ∧ PostE X.K g H0 W σ Q F1 H1 ((fs env).bind fun vs => φ (toArg (pas mv) :: vs.map toArg))) I
    (bindE (postE_ok Q) R0 p fun mv v F1 H1 e1 a1 R1 p1 => ?_)) fun u s1 hh => ?_) ht
  · obtain ⟨fs', e2, p2⟩ := post_ins (postE_ok Q) p1
    refine ⟨F1, mv, fs', ?_, a1, R1, p2⟩
    have z := a1.rd
    rw [pas_snd, e2] at z
    exact z
  · obtain ⟨v, H1, I1, rx, F1, mv, fs', z, a1, R1, p2⟩ := hh
    obtain ⟨q, dx, vs', rfl, hq, _⟩ := z.ins R1.ext.sub
    obtain rfl : u = Value.ref q := rx
    refine getmeth_ok I1 hq hc hm (zip_no hn) ?_
    rcases he with rfl | ⟨e, es', rfl, he, hpl⟩
    · simp only [h0 rfl, R.bind_ok] at p2
      exact PySem.W.callWith_K0 (first := [.ref q]) I1.kIn hm.kp (run_fnS (us := [.ref q]) (vs := [.ref q]) Fo hr' hb (passAt tk σ) I1 (.cons rfl .nil) (sp_of R1.ext.sub (.cons a1.arg .nil) p2))
    · refine PySem.W.callWith_K (first := [.ref q]) (h₀ := X.base) I1.ok.mod.kin hm.kp (thn (ha.run pos pins s1 σ H1 (fun vs H2 => spOf X.K g φ (.ref q :: vs) H2 Q (WE W σ)) I1 (bindA (postE_ok Q) R1 p2 fun mvs vs F2 H2 e2 a2 R2 p3 => ?_)) fun us s2 ⟨vs, H2, I2, r, q2⟩ => ⟨I2.kIn, ?_⟩) he hpl
      · exact sp_of R2.ext.sub (.cons (a1.stop e2).arg a2.arg) p3
      · exact run_fnS (us := .ref q :: us) (vs := .ref q :: vs) Fo hr' hb (passAt tk σ) I2 (.cons rfl r) q2
end
end Fx

namespace Fx
open PySem PySem.Spec PyProof.Rows L2

/-- the heap without x -/
def delH (H : Hp) (x : Addr) : Hp := fun b => if b = x then none else H b
theorem delH_same {H : Hp} {x : Addr} : delH H x x = none := by unfold delH; rw [if_pos rfl]
theorem delH_ne {H : Hp} {x b : Addr} (h : b ≠ x) : delH H x b = H b := by unfold delH; rw [if_neg h]
/-- what __init__ of the class C promises -/
def spInit (K : PySem.W.Frag) (g : Tab) (C : Nat) (φ : Sem') : Sp := fun vs H Q E => ∃ F x dx ws mvs, vs = .ref x :: ws ∧ H x = some (.ins (g.ca C) dx []) ∧ F x = none ∧ (∀ a o, F a = some o → delH H x a = some o) ∧ AReps K g (delH H x) F (delH H x) mvs ws ∧ match φ mvs with
  | .ok mv => ∀ F' H', Ext F (delH H x) F' H' → F' x = none → OwnAt K g F' H' x mv.2 → mv.1 = .own → Q .non H'
  | .ex C fs => ∀ dx F' H', Ext F (delH H x) F' H' → XRep K g (delH H x) F' H' C fs dx → E (.ref (g.xa C)) dx H'
  | .no => False
structure NewOk (g : Tab) (X : Cx) (k : Nat) (x : Str) (C : Nat) (φ : Sem') : Prop where
  ex : ∃ f fd ps j, j + 1 ≤ k ∧ FnOk X.prog X.w X.K X.mg X.base (L2.CX X.prog X.w) j f fd ps (spInit X.K g C φ) ∧ X.mg x = some (.ref (g.ca C)) ∧ Mk X.K (g.ca C) f ∧ Binds X.K fd ps []
  own : ∀ mvs mv, φ mvs = .ok mv → mv.1 = .own

section
variable {g : Tab} {xo : XO} {F0 H0 : Hp} {W : WX} {X : Cx} {e a b c : Expr} {es : List Expr} {pos p apos : Pos} {fa fb fc f : Env → R Val} {fs : Env → R (List Val)} {ft : Env → R Bool}

theorem run_makeS {CX : CXT} {C f : Addr} {fd : FuncData} {ps : List Str} {sp : Sp} {E : XK} {k : Nat} {pins : List (Addr × Obj)} {σ : L2.St} {H : Hp} {s : Shared} {Q : VK} {us : List Value} {vs : List V} (M : Mk X.K C f) (F : FnOk X.prog X.w X.K X.mg X.base CX k f fd ps sp) (hr : Room (k + 1) X.A) (hb : Binds X.K fd ps [])
    (hx : PassesAt CX X σ E) (I : Inv X pins σ H s) (r : Vals vs us)
    (h : ∀ x dx, H x = none → H dx = none → dx ≠ x → sp (.ref x :: vs) (upd (upd H dx (.own x)) x (.ins C dx [])) (fun v H2 => v = .non ∧ Q (.ref x) H2) E) :
    wpAny (model X.prog X.w) X.A (call (.ref C) us) (EP X pins σ Q) X.xe s := by
  have hq := h (s.heap.objs.size + 1) s.heap.objs.size (I.hok.fresh (Nat.le_succ _)) (I.hok.fresh (Nat.le_refl _)) (Nat.ne_of_lt (Nat.lt_succ_self _))
  have I2 := Inv.made (C := C) I
  have r2 : Vals (V.ref (s.heap.objs.size + 1) :: vs) (Value.ref (s.heap.objs.size + 1) :: us) := .cons rfl r
  have hl : (Value.ref (s.heap.objs.size + 1) :: us).length = ps.length := by
    have e := r2.length
    rw [F.len _ _ _ _ hq] at e
    exact e.symm
  have hbb := hb { s with heap := (s.heap.push PySem.W.emptyDict).push (PySem.W.instObj C s.heap.objs.size) } (Value.ref (s.heap.objs.size + 1) :: us) I2.kIn (by rw [List.append_nil]; exact hl)
  rw [List.append_nil] at hbb
  refine wpAny_call (make_map (f := f) I.kIn M.makes M.init (beq_iff_eq.mp M.fn) (codeAny_mono (F.run _ X.stack _ _ ⟨Value.ref (s.heap.objs.size + 1) :: us, []⟩ (Value.ref (s.heap.objs.size + 1) :: us) _ _ E (hr.make C us [])
    (I2.env0.make C us []) hbb r2 hq) fun r s' hq' => ?_))
  cases r with
  | error e => exact hx pins _ _ e s' I2 hq'
  | ok fl =>
    cases fl with
    | ret u =>
      obtain ⟨v, H', I3, rv, ev, q3⟩ := I2.after hq'
      subst ev
      exact ⟨rv, ⟨V.ref (s.heap.objs.size + 1), H', I3, rfl, q3⟩⟩
    | next => exact False.elim hq'
    | brk => exact False.elim hq'
    | cont => exact False.elim hq'
theorem init_of {C : Nat} {φ : Sem'} {mvs : List Val} {vs : List V} {σ : L2.St} {F H : Hp} {Q : VK} (ow : ∀ mvs mv, φ mvs = .ok mv → mv.1 = .own) (s : ∀ a o, F a = some o → H a = some o) (ar : AReps X.K g H F H mvs vs) (p : PostE X.K g H0 W σ Q F H (φ mvs)) :
    ∀ x dx, H x = none → H dx = none → dx ≠ x → spInit X.K g C φ (.ref x :: vs) (upd (upd H dx (.own x)) x (.ins (g.ca C) dx [])) (fun v H2 => v = .non ∧ Q (.ref x) H2) (WE W σ) := by
  intro x dx hx hd ne
  have hF : F x = none := by
    cases q : F x with
    | none => rfl
    | some u => rw [s x u q] at hx; cases hx
  have eD : delH (upd (upd H dx (.own x)) x (.ins (g.ca C) dx [])) x = upd H dx (.own x) := by
    funext b
    by_cases hb : b = x
    · subst hb; rw [delH_same, upd_ne ne.symm, hx]
    · rw [delH_ne hb, upd_ne hb]
  have e1 : Ext F H F (upd H dx (.own x)) := (Ext.refl s).laid hd
  refine ⟨F, x, dx, vs, mvs, rfl, upd_same, hF, by rw [eD]; exact e1.sub, by rw [eD]; exact (ar.stop e1).base fun p z q => z (e1.free q), ?_⟩
  rw [eD]
  cases q : φ mvs with
  | ok mv =>
    rw [q] at p
    intro F' H' e2 f' o om
    refine ⟨rfl, p (.ref x) F' H' (e1.trans e2) ?_⟩
    obtain ⟨m, d⟩ := mv
    obtain rfl : m = .own := om
    exact ⟨x, rfl, hx, f', o⟩
  | ex C' fs =>
    rw [q] at p
    intro dd F' H' e2 xr
    exact p dd F' H' (e1.trans e2) (xr.start e1)
  | no => rw [q] at p; exact p
theorem se_new {x : Str} {C : Nat} {φ : Sem'} {k : Nat} (c : NewOk g X k x C φ) (hr : Room k X.A) (tk : Takes X W) (hg : Gl X x) (hdb : (x == ("__debug__" : Str)) = false) (ha : SA g xo F0 H0 W X es fs)
    (he : es = [] ∨ ∃ e es', es = e :: es' ∧ starEach (e :: es') X.env = (false, PySem.eval e X.env) :: starEach es' X.env ∧ (backTo pos (starEach es' X.env)).any (·.1) = false) (h0 : es = [] → ∀ env, fs env = .ok []) :
    SE g xo F0 H0 W X (.Call (.Name x p) es [] pos) (fun env => (fs env).bind fun vs => φ (vs.map toArg)) := by
  obtain ⟨f, fd, ps, j, hj, Fo, hm, M, hb⟩ := c.ex
  have hr' := hr.mono hj
  rcases he with rfl | ⟨e, es', rfl, he, hpl⟩
  · refine ⟨fun pins s σ H Q I ⟨F, env, R0, p⟩ => ?_⟩
    simp only [h0 rfl, R.bind_ok] at p
    refine wpAny_Call_Name_kw (ld_glob I hg hm ?_ hdb)
    exact PySem.W.callWith_K0 I.kIn M.kp (run_makeS (us := []) (vs := []) M Fo hr' hb (passAt tk σ) I .nil (init_of c.own R0.ext.sub .nil p))
  · refine ⟨fun pins s σ H Q I ⟨F, env, R0, p⟩ => ?_⟩
    refine wpAny_Call_Name_kw (ld_glob I hg hm ?_ hdb)
    refine PySem.W.callWith_K (h₀ := X.base) I.ok.mod.kin M.kp (thn (ha.run pos pins s σ H (fun vs H1 => ∃ F1 mvs, AReps X.K g H0 F1 H1 mvs vs ∧ (∀ a o, F1 a = some o → H1 a = some o) ∧ PostE X.K g H0 W σ Q F1 H1 (φ (mvs.map toArg))) I
      (bindA (postE_ok Q) R0 p fun mvs vs F1 H1 e1 a1 R1 p1 => ⟨F1, mvs, a1, R1.ext.sub, p1⟩)) fun us s1 ⟨vs, H1, I1, r, F1, mvs, a1, s1', p1⟩ => ⟨I1.kIn, ?_⟩) he hpl
    exact run_makeS M Fo hr' hb (passAt tk σ) I1 r (init_of c.own s1' a1.arg p1)

/-! ### attributes -/
theorem zip_get {ks : List Str} {vs : List V} {j : Nat} {m : Str} {v : V} (nd : ks.Nodup) (hk : ks[j]? = some m) (hv : vs[j]? = some v) : (ks.zip vs).lookup m = some v := by
  induction ks generalizing vs j with
  | nil => simp at hk
  | cons a ks ih =>
    cases vs with
    | nil => simp at hv
    | cons w vs =>
      cases j with
      | zero =>
        simp at hk hv
        subst hk hv
        simp
      | succ j =>
        simp at hk hv
        have hne : (m == a) = false := by
          have := (List.nodup_cons.mp nd).1
          rw [beq_eq_false_iff_ne]
          intro q
          subst q
          exact this (List.mem_of_getElem? hk)
        rw [List.zip_cons_cons, List.lookup_cons, hne]
        exact ih (List.nodup_cons.mp nd).2 hk hv
/-- a class whose attributes may be read -/
structure FldOk (g : Tab) (X : Cx) (C j : Nat) (m : Str) : Prop where
  cl : Cls X.K (g.ca C)
  no : NoAttr X.K (g.ca C) m
  at_ : (g.cf C)[j]? = some m
  nd : (g.cf C).Nodup
theorem se_fld {C j : Nat} {m : Str} (c : FldOk g X C j m) (ha : SE g xo F0 H0 W X a fa) (hb : attributeBase a m X.env (PySem.eval a X.env) = PySem.eval a X.env) :
    SE g xo F0 H0 W X (.Attribute a m pos) (fun env => (fa env).bind fun x => (asIns C x.2).bind fun fs => (R.ofOpt fs[j]?).bind fun d => .ok (.frz, d)) := by
  refine (pe_fld ha hb).imp fun σ H Q ⟨F, env, R0, p⟩ => ?_
  refine bindE (postE_ok Q) R0 p fun mv v F1 H1 e1 a1 R1 p1 => ?_
  obtain ⟨fs, e2, p2⟩ := post_ins (postE_ok Q) p1
  have z := a1.rd
  rw [pas_snd, e2] at z
  obtain ⟨q, dx, vs, rfl, hq, r⟩ := z.ins R1.ext.sub
  cases e3 : fs[j]? with
  | none => rw [e3] at p2; exact p2.elim
  | some d =>
    rw [e3] at p2
    obtain ⟨w, hw, rw'⟩ := r.get e3
    exact ⟨q, _, dx, _, w, rfl, hq, c.cl, c.no, zip_get c.nd c.at_ hw, PostE.frz p2 R1.ext.sub rw'⟩
structure PropOk (g : Tab) (X : Cx) (k : Nat) (C : Nat) (m : Str) (φ : Sem') : Prop where
  ex : ∃ p f fd ps j, j + 1 ≤ k ∧ FnOk X.prog X.w X.K X.mg X.base (L2.CX X.prog X.w) j f fd ps (spOf X.K g φ) ∧ Cls X.K (g.ca C) ∧ PropOf X.K (g.ca C) m p f ∧ Binds X.K fd ps []
theorem se_prop {C : Nat} {m : Str} {φ : Sem'} {k : Nat} (c : PropOk g X k C m φ) (hr : Room k X.A) (ha : SE g xo F0 H0 W X a fa) (hb : attributeBase a m X.env (PySem.eval a X.env) = PySem.eval a X.env) :
    SE g xo F0 H0 W X (.Attribute a m pos) (fun env => (fa env).bind fun x => (asIns C x.2).bind fun _ => noEx (φ [toArg (pas x)])) := by
  obtain ⟨pp, f, fd, ps, j, hj, Fo, hc, hp, hb'⟩ := c.ex
  refine (pe_prop (E := E0) ha hc hp Fo (hr.mono hj) hb' .nil passL hb).imp fun σ H Q ⟨F, env, R0, p⟩ => ?_
  refine bindE (postE_ok Q) R0 p fun mv v F1 H1 e1 a1 R1 p1 => ?_
  obtain ⟨fs, e2, p2⟩ := post_ins (postE_ok Q) p1
  have z := a1.rd
  rw [pas_snd, e2] at z
  obtain ⟨q, dx, vs, rfl, hq, r⟩ := z.ins R1.ext.sub
  refine ⟨q, dx, _, rfl, hq, F1, [toArg (pas mv)], R1.ext.sub, .cons a1.arg .nil, ?_⟩
  cases e3 : φ [toArg (pas mv)] with
  | ok mv2 => rw [e3] at p2; exact fun v F' H' e r => p2 v F' H' e r.vrep
  | ex C fs => rw [e3] at p2; exact p2.elim
  | no => rw [e3] at p2; exact p2.elim
end
end Fx

/-! C(e, .., k = v, ..): an instance made with keywords too. -/
namespace Fx
open PySem PySem.Spec PyProof.Rows L2
theorem _root_.L2.PK.imp {X : Cx} {e : List Keyword} {t t' : TA} (h : PK X e t) (i : ∀ σ H Q, t' σ H Q → t σ H Q) : PK X e t' := ⟨fun pos pins s σ H Q I q => h.run pos pins s σ H Q I (i σ H Q q)⟩
structure NewKOk (g : Tab) (X : Cx) (k : Nat) (x : Str) (C : Nat) (φ : Sem') (n : Nat) (kn : List Str) : Prop where
  ex : ∃ f fd ps j, j + 1 ≤ k ∧ FnOk X.prog X.w X.K X.mg X.base (L2.CX X.prog X.w) j f fd ps (spInit X.K g C φ) ∧ X.mg x = some (.ref (g.ca C)) ∧ Mk X.K (g.ca C) f ∧ KBn X.K fd ps (n + 1) kn (fun us ws => us ++ ws) (fun vs zs => vs ++ zs)
  own : ∀ mvs mv, φ mvs = .ok mv → mv.1 = .own
section
variable {g : Tab} {xo : XO} {F0 H0 : Hp} {W : WX} {X : Cx} {e a b c : Expr} {es : List Expr} {kws : List Keyword} {pos p apos kpos : Pos} {nm : Option Str} {fa fb fc f : Env → R Val} {fs gs : Env → R (List Val)}
theorem sk_nil : PK X [] (TAo X.K g xo F0 H0 W (fun _ => .ok [])) :=
  (pk_nil (X := X)).imp fun σ H Q ⟨F, env, R0, p⟩ => p [] F H (Ext.refl R0.ext.sub) .nil
theorem sk_cons (ha : SE g xo F0 H0 W X e fa) (hr : PK X kws (TAo X.K g xo F0 H0 W fs)) :
    PK X (⟨nm, e, kpos⟩ :: kws) (TAo X.K g xo F0 H0 W (fun env => (fa env).bind fun v => (fs env).bind fun vs => .ok (pas v :: vs))) := by
  refine (pk_cons ha hr).imp fun σ H Q ⟨F, env, R0, p⟩ => ?_
  refine bindE (postA_ok Q) R0 p fun mv v F1 H1 e1 a1 R1 p1 => ?_
  refine bindA (postA_ok Q) R1 p1 fun mvs vs F2 H2 e2 a2 R2 p2 => ?_
  exact p2 (v :: vs) F2 H2 (Ext.refl R2.ext.sub) (.cons (a1.stop e2) a2)
theorem run_makeKS {CX : CXT} {k n : Nat} {C f : Addr} {fd : FuncData} {ps ks : List Str} {sp : Sp} {E : XK} {gv : List Value → List Value → List Value} {gV : List V → List V → List V} {pins : List (Addr × Obj)} {σ : L2.St} {H : Hp} {s : Shared} {Q : VK} {us ws : List Value} {vs zs : List V}
    (M : Mk X.K C f) (F : FnOk X.prog X.w X.K X.mg X.base CX k f fd ps sp) (hr : Room (k + 1) X.A) (hb : KBn X.K fd ps (n + 1) ks gv gV) (hx : PassesAt CX X σ E)
    (I : Inv X pins σ H s) (r : Vals vs us) (rz : Vals zs ws) (l1 : vs.length = n) (l2 : zs.length = ks.length)
    (h : ∀ x dx, H x = none → H dx = none → dx ≠ x → sp (gV (.ref x :: vs) zs) (upd (upd H dx (.own x)) x (.ins C dx [])) (fun v H2 => v = .non ∧ Q (.ref x) H2) E) :
    wpAny (model X.prog X.w) X.A (call (.ref C) us (ks.zip ws)) (EP X pins σ Q) X.xe s := by
  have hq := h (s.heap.objs.size + 1) s.heap.objs.size (I.hok.fresh (Nat.le_succ _)) (I.hok.fresh (Nat.le_refl _)) (Nat.ne_of_lt (Nat.lt_succ_self _))
  have J := Inv.made (C := C) I
  have q1 : Vals (V.ref (s.heap.objs.size + 1) :: vs) (Value.ref (s.heap.objs.size + 1) :: us) := .cons rfl r
  have ln : (Value.ref (s.heap.objs.size + 1) :: us).length = n + 1 := by
    have := r.length
    simp only [List.length_cons]
    omega
  have lw : ws.length = ks.length := by
    have := rz.length
    omega
  have hbb := hb.to { s with heap := (s.heap.push PySem.W.emptyDict).push (PySem.W.instObj C s.heap.objs.size) } (Value.ref (s.heap.objs.size + 1) :: us) ws J.kIn ln lw
  refine wpAny_call (make_map (f := f) I.kIn M.makes M.init (beq_iff_eq.mp M.fn) (codeAny_mono (F.run _ X.stack _ _ ⟨Value.ref (s.heap.objs.size + 1) :: us, ks.zip ws⟩ _ _ _ E (hr.make C us (ks.zip ws))
    (J.env0.make C us (ks.zip ws)) hbb (hb.rel q1 rz) hq) fun r s' hq' => ?_))
  cases r with
  | error e => exact hx pins _ _ e s' J hq'
  | ok fl =>
    cases fl with
    | ret u =>
      obtain ⟨v, H', I3, rv, ev, q3⟩ := J.after hq'
      subst ev
      exact ⟨rv, ⟨V.ref (s.heap.objs.size + 1), H', I3, rfl, q3⟩⟩
    | next => exact False.elim hq'
    | brk => exact False.elim hq'
    | cont => exact False.elim hq'
theorem AReps.append {K : PySem.W.Frag} {F H : Hp} {mvs mws : List Val} {vs ws : List V} (a : AReps K g H0 F H mvs vs) (b : AReps K g H0 F H mws ws) : AReps K g H0 F H (mvs ++ mws) (vs ++ ws) := by
  induction a with
  | nil => exact b
  | cons h _ ih => exact .cons h ih
theorem se_newK {x : Str} {C : Nat} {φ : Sem'} {k n : Nat} {kn : List Str} (c : NewKOk g X k x C φ n kn) (hr : Room k X.A) (tk : Takes X W) (hg : Gl X x) (hdb : (x == ("__debug__" : Str)) = false) (ha : SA g xo F0 H0 W X (e :: es) fs) (hkw : PK X kws (TAo X.K g xo F0 H0 W gs))
    (hall : (backToKw pos (keywordEach kws X.env)).all (·.1.isSome) = true) (hks : (backToKw pos (keywordEach kws X.env)).filterMap (·.1) = kn) (he : starEach (e :: es) X.env = (false, PySem.eval e X.env) :: starEach es X.env)
    (hpl : ((backTo pos (starEach (e :: es) X.env)).any (·.1) || (backToKw pos (keywordEach kws X.env)).any (·.1.isNone)) = false) (ln : ∀ env vs, fs env = .ok vs → vs.length = n) (lk : ∀ env ws, gs env = .ok ws → ws.length = kn.length) :
    SE g xo F0 H0 W X (.Call (.Name x p) (e :: es) kws pos) (fun env => (fs env).bind fun vs => (gs env).bind fun ws => φ (vs.map toArg ++ ws.map toArg)) := by
  obtain ⟨f, fd, ps, j, hj, Fo, hm, M, hb⟩ := c.ex
  have hr' := hr.mono hj
  refine ⟨fun pins s σ H Q I ⟨F, env, R0, p⟩ => ?_⟩
  have p : PostE X.K g H0 W σ Q F H ((fs env).bind fun vs => (gs env).bind fun ws => φ (vs.map toArg ++ ws.map toArg)) := p
  refine wpAny_Call_Name_kw (ld_glob I hg hm ?_ hdb)
  refine PySem.W.callWith_KW (h₀ := X.base) I.ok.mod.kin M.kp hall (thn (ha.run pos pins s σ H (fun vs H1 => ∃ F1 mvs, fs env = .ok mvs ∧ AReps X.K g H0 F1 H1 mvs vs ∧ FRel X.K g xo F0 H0 F1 H1 σ env ∧ PostE X.K g H0 W σ Q F1 H1 ((gs env).bind fun ws => φ (mvs.map toArg ++ ws.map toArg))) I ?_) fun us s1 ⟨vs, H1, I1, r, F1, mvs, eq, a1, R1, p1⟩ => ?_) hpl he
  · refine ⟨F, env, R0, ?_⟩
    cases q : fs env with
    | ok mvs =>
      rw [q, R.bind_ok] at p
      exact fun vs F' H' e' a => ⟨F', mvs, rfl, a, R0.ext' e', (postE_ok Q).shift _ _ _ _ _ e' p⟩
    | ex C' fs' => rw [q, R.bind_ex] at p; exact p
    | no => rw [q] at p; exact p.elim
  · refine thn (hkw.run pos pins s1 σ H1 (fun zs H2 => ∃ F2 mws, gs env = .ok mws ∧ AReps X.K g H0 F2 H2 mvs vs ∧ AReps X.K g H0 F2 H2 mws zs ∧ (∀ a o, F2 a = some o → H2 a = some o) ∧ PostE X.K g H0 W σ Q F2 H2 (φ (mvs.map toArg ++ mws.map toArg))) I1 ?_) fun ws s2 ⟨zs, H2, I2, rz, F2, mws, eq2, b1, b2, s2', p2⟩ => ⟨I2.kIn, ?_⟩
    · refine ⟨F1, env, R1, ?_⟩
      cases q : gs env with
      | ok mws =>
        rw [q, R.bind_ok] at p1
        exact fun zs F' H' e' a => ⟨F', mws, rfl, a1.stop e', a, (R1.ext' e').ext.sub, (postE_ok Q).shift _ _ _ _ _ e' p1⟩
      | ex C' fs' => rw [q, R.bind_ex] at p1; exact p1
      | no => rw [q] at p1; exact p1.elim
    · rw [hks]
      refine run_makeKS M Fo hr' hb (passAt tk σ) I2 r rz (by rw [a1.len]; exact ln env mvs eq) (by rw [b2.len]; exact lk env mws eq2) ?_
      have q := init_of (C := C) (σ := σ) (Q := Q) c.own s2' (vs := vs ++ zs) (mvs := mvs.map toArg ++ mws.map toArg) (b1.arg.append b2.arg) p2
      exact q
end
end Fx

namespace Fx
open PySem PySem.Spec PyProof.Rows L2
section
variable {g : Tab} {xo : XO} {F0 H0 : Hp} {W : WX} {X : Cx} {e a b c : Expr} {es : List Expr} {pos p apos : Pos} {fa fb fc f : Env → R Val} {fs : Env → R (List Val)} {ft : Env → R Bool}

theorem post_int {d : D} {β : Type} {Post : Hp → Hp → R β → Prop} {σ : L2.St} {k : Int → R β} {F H : Hp} (P : PostOk X.K g W σ Post) (p : Post F H ((asInt d).bind k)) : ∃ i, d = .int i ∧ Post F H (k i) := by
  cases d with
  | int i => exact ⟨i, rfl, p⟩
  | _ => exact (P.no _ _ p).elim
theorem post_bl {d : D} {β : Type} {Post : Hp → Hp → R β → Prop} {σ : L2.St} {k : Bool → R β} {F H : Hp} (P : PostOk X.K g W σ Post) (p : Post F H ((asB d).bind k)) : ∃ i, d = .bl i ∧ Post F H (k i) := by
  cases d with
  | bl i => exact ⟨i, rfl, p⟩
  | _ => exact (P.no _ _ p).elim
theorem rd_of {K : PySem.W.Frag} {F H : Hp} {mv : Val} {v : V} (h : ARep K g H0 F H (pas mv) v) : RD K g F H mv.2 v := by
  have z := h.rd
  rw [pas_snd] at z
  exact z

theorem se_neg (ha : SE g xo F0 H0 W X a fa) : SE g xo F0 H0 W X (.UnaryOp .USub a pos) (fun env => (fa env).bind fun x => (asInt x.2).bind fun i => .ok (.frz, .int (-i))) := by
  refine (pe_un un_neg ha).imp fun σ H Q ⟨F, env, R0, p⟩ => ?_
  refine bindE (postE_ok Q) R0 p fun mv v F1 H1 e1 a1 R1 p1 => ?_
  obtain ⟨i, e2, p2⟩ := post_int (postE_ok Q) p1
  have z := rd_of a1
  rw [e2] at z
  exact ⟨i, z.int, PostE.frz p2 R1.ext.sub (Rep.mkI _)⟩
theorem se_inv (ha : SE g xo F0 H0 W X a fa) : SE g xo F0 H0 W X (.UnaryOp .Invert a pos) (fun env => (fa env).bind fun x => (asInt x.2).bind fun i => .ok (.frz, .int (Builtin.bitNot i))) := by
  refine (pe_un un_inv ha).imp fun σ H Q ⟨F, env, R0, p⟩ => ?_
  refine bindE (postE_ok Q) R0 p fun mv v F1 H1 e1 a1 R1 p1 => ?_
  obtain ⟨i, e2, p2⟩ := post_int (postE_ok Q) p1
  have z := rd_of a1
  rw [e2] at z
  exact ⟨i, z.int, PostE.frz p2 R1.ext.sub (Rep.mkI _)⟩
theorem se_not (ha : SE g xo F0 H0 W X a fa) : SE g xo F0 H0 W X (.UnaryOp .Not a pos) (fun env => (fa env).bind fun x => (asB x.2).bind fun b => .ok (.frz, .bl (!b))) := by
  refine (pe_not ha).imp fun σ H Q ⟨F, env, R0, p⟩ => ?_
  refine bindE (postE_ok Q) R0 p fun mv v F1 H1 e1 a1 R1 p1 => ?_
  obtain ⟨i, e2, p2⟩ := post_bl (postE_ok Q) p1
  have z := rd_of a1
  rw [e2] at z
  exact ⟨i, z.bl, PostE.frz p2 R1.ext.sub (Rep.mkB _)⟩
theorem st_not (ha : STs g xo F0 H0 W X a (fun env => (fa env).bind fun v => asB v.2)) : STs g xo F0 H0 W X (.UnaryOp .Not a pos) (fun env => ((fa env).bind fun x => (asB x.2).bind fun b => R.ok (Mode.frz, D.bl (!b))).bind fun v => asB v.2) := by
  refine (pt_not ha).imp fun σ H Q ⟨F, env, R0, p⟩ => ?_
  have e : (((fa env).bind fun x => (asB x.2).bind fun b => R.ok (Mode.frz, D.bl (!b))).bind fun v => asB v.2) = ((fa env).bind fun v => asB v.2).bind fun b => .ok (!b) := by
    simp only [R.bind_assoc]
    congr 1
  have p : PostT X.K g W σ Q F H (((fa env).bind fun v => asB v.2).bind fun b => .ok (!b)) := e ▸ p
  exact bindT' (postT_ok Q) R0 p fun b F1 H1 e1 R1 p1 => p1 F1 H1 (Ext.refl R1.ext.sub)
theorem isNon_rd {K : PySem.W.Frag} {F H : Hp} {d : D} {v : V} (h : RD K g F H d v) : decide (v = .non) = isNon d := by
  rcases h with h | ⟨q, rfl, o⟩
  · cases d with
    | non => rw [h.non]; rfl
    | bl b => rw [h.bl]; rfl
    | int i => rw [h.int]; rfl
    | str s => rw [h.str]; rfl
    | tup xs => obtain ⟨a, vs, rfl, _⟩ := h.tup; rfl
    | lst xs => obtain ⟨a, vs, rfl, _⟩ := h.lst; rfl
    | ins C fs => obtain ⟨a, dx, vs, rfl, _⟩ := h.ins; rfl
    | scr ns => obtain ⟨a, rfl, _⟩ := h.scr; rfl
    | dct _ _ => obtain ⟨a, ep, kvs, vvs, rfl, _⟩ := h.dct; rfl
    | st _ => simp only [Rep] at h
    | exc _ _ => simp only [Rep] at h
  · cases d with
    | lst xs => rfl
    | ins C fs => rfl
    | dct ks ds => rfl
    | _ => exact o.elim
theorem se_isn {j : Nat} {pos' : Pos} (ha : SE g xo F0 H0 W X a fa) : SE g xo F0 H0 W X (.Compare a [.Is] [.Constant .none j pos'] pos) (fun env => (fa env).bind fun x => .ok (.frz, .bl (isNon x.2))) ∧
    STs g xo F0 H0 W X (.Compare a [.Is] [.Constant .none j pos'] pos) (fun env => ((fa env).bind fun x => R.ok (Mode.frz, D.bl (isNon x.2))).bind fun v => asB v.2) := by
  have h1 : behindInMarks .Is (.Constant .none j pos') = false := rfl
  refine ⟨(pe_cmp (pc_isN ha) h1).imp fun σ H Q ⟨F, env, R0, p⟩ => ?_, (pt_cmp (pc_isN ha) h1).imp fun σ H Q ⟨F, env, R0, p⟩ => ?_⟩
  · refine bindE (postE_ok Q) R0 p fun mv v F1 H1 e1 a1 R1 p1 => ?_
    rw [isNon_rd (rd_of a1)]
    exact PostE.frz p1 R1.ext.sub (Rep.mkB _)
  · simp only [R.bind_assoc] at p
    refine bindE (postT_ok Q) R0 p fun mv v F1 H1 e1 a1 R1 p1 => ?_
    rw [isNon_rd (rd_of a1)]
    exact ⟨_, rfl, p1 F1 H1 (Ext.refl R1.ext.sub)⟩
theorem se_isnn {j : Nat} {pos' : Pos} (ha : SE g xo F0 H0 W X a fa) : SE g xo F0 H0 W X (.Compare a [.IsNot] [.Constant .none j pos'] pos) (fun env => (fa env).bind fun x => .ok (.frz, .bl (!isNon x.2))) ∧
    STs g xo F0 H0 W X (.Compare a [.IsNot] [.Constant .none j pos'] pos) (fun env => ((fa env).bind fun x => R.ok (Mode.frz, D.bl (!isNon x.2))).bind fun v => asB v.2) := by
  have h1 : behindInMarks .IsNot (.Constant .none j pos') = false := rfl
  refine ⟨(pe_cmp (pc_notN ha) h1).imp fun σ H Q ⟨F, env, R0, p⟩ => ?_, (pt_cmp (pc_notN ha) h1).imp fun σ H Q ⟨F, env, R0, p⟩ => ?_⟩
  · refine bindE (postE_ok Q) R0 p fun mv v F1 H1 e1 a1 R1 p1 => ?_
    rw [isNon_rd (rd_of a1)]
    exact PostE.frz p1 R1.ext.sub (Rep.mkB _)
  · simp only [R.bind_assoc] at p
    refine bindE (postT_ok Q) R0 p fun mv v F1 H1 e1 a1 R1 p1 => ?_
    rw [isNon_rd (rd_of a1)]
    exact ⟨_, rfl, p1 F1 H1 (Ext.refl R1.ext.sub)⟩

/-! ### a chain of two comparisons -/
theorem se_chain {o1 o2 : Cop} (hwd : g.wd = X.w) (hu : X.A.units + 65 < cLine) (hm : lastMarks [copOf o1, copOf o2] [b, c] = false) (ha : SE g xo F0 H0 W X a fa) (hb : SE g xo F0 H0 W X b fb) (hc : SE g xo F0 H0 W X c fc) :
    SE g xo F0 H0 W X (.Compare a [copOf o1, copOf o2] [b, c] pos) (fun env => (fa env).bind fun x => (fb env).bind fun y => (cmpop o1 x.2 y.2).bind fun r =>
      if r then (fc env).bind fun z => (cmpop o2 y.2 z.2).bind fun r2 => .ok (.frz, .bl r2) else .ok (.frz, .bl false)) ∧
    STs g xo F0 H0 W X (.Compare a [copOf o1, copOf o2] [b, c] pos) (fun env => ((fa env).bind fun x => (fb env).bind fun y => (cmpop o1 x.2 y.2).bind fun r =>
      if r then (fc env).bind fun z => (cmpop o2 y.2 z.2).bind fun r2 => R.ok (Mode.frz, D.bl r2) else .ok (.frz, .bl false)).bind fun v => asB v.2) := by
  have key : ∀ (β : Type) (σ : L2.St) (H : Hp) (Q : VK) (Post : Hp → Hp → R β → Prop) (k : D → R β) (P : PostOk X.K g W σ Post) (F : Hp) (env : Env), FRel X.K g xo F0 H0 F H σ env →
      (∀ (F : Hp) (H : Hp) (b : Bool), (∀ a o, F a = some o → H a = some o) → Post F H (k (.bl b)) → Q (.bl b) H) →
      Post F H ((fa env).bind fun x => (fb env).bind fun y => (cmpop o1 x.2 y.2).bind fun r => if r then (fc env).bind fun z => (cmpop o2 y.2 z.2).bind fun r2 => k (.bl r2) else k (.bl false)) →
      tChain (rCop X.K g o1) (rCop X.K g o2) (TEo X.K g xo F0 H0 W fa) (TEo X.K g xo F0 H0 W fb) (TEo X.K g xo F0 H0 W fc) σ H Q := by
    intro β σ H Q Post k P F env R0 fin p
    refine bindE P R0 p fun mv v F1 H1 e1 a1 R1 p1 => ?_
    refine bindE P R1 p1 fun mw w F2 H2 e2 a2 R2 p2 => ?_
    cases q : cmpop o1 mv.2 mw.2 with
    | ex C fs => exact absurd q cmpop_ex
    | no => rw [q] at p2; exact (P.no _ _ p2).elim
    | ok r =>
      rw [q, R.bind_ok] at p2
      refine rCop_of R2.ext.sub ((rd_of a1).stop e2) (rd_of a2) q ⟨r, rfl, ?_⟩
      cases r with
      | false => exact fin F2 H2 false R2.ext.sub p2
      | true =>
        refine iteT (bindE P R2 p2 fun mu u F3 H3 e3 a3 R3 p3 => ?_)
        cases q2 : cmpop o2 mw.2 mu.2 with
        | ex C fs => exact absurd q2 cmpop_ex
        | no => rw [q2] at p3; exact (P.no _ _ p3).elim
        | ok r2 =>
          rw [q2, R.bind_ok] at p3
          exact rCop_of R3.ext.sub ((rd_of a2).stop e3) (rd_of a3) q2 (fin F3 H3 r2 R3.ext.sub p3)
  refine ⟨(pe_chain (op_cop hwd o1 hu) (op_cop hwd o2 hu) ha hb hc hm).imp fun σ H Q ⟨F, env, R0, p⟩ => ?_, (pt_chain (op_cop hwd o1 hu) (op_cop hwd o2 hu) ha hb hc hm).imp fun σ H Q ⟨F, env, R0, p⟩ => ?_⟩
  · exact key _ σ H Q (PostE X.K g H0 W σ Q) (fun d => .ok (.frz, d)) (postE_ok Q) F env R0 (fun F H b s p => PostE.frz p s (Rep.mkB b)) p
  · refine key _ σ H _ (PostT X.K g W σ Q) (fun d => asB d) (postT_ok Q) F env R0 (fun F H b s p => ⟨b, rfl, p F H (Ext.refl s)⟩) ?_
    have e : (((fa env).bind fun x => (fb env).bind fun y => (cmpop o1 x.2 y.2).bind fun r =>
      if r then (fc env).bind fun z => (cmpop o2 y.2 z.2).bind fun r2 => R.ok (Mode.frz, D.bl r2) else .ok (.frz, .bl false)).bind fun v => asB v.2) =
      ((fa env).bind fun x => (fb env).bind fun y => (cmpop o1 x.2 y.2).bind fun r => if r then (fc env).bind fun z => (cmpop o2 y.2 z.2).bind fun r2 => asB (.bl r2) else asB (.bl false)) := by
      simp only [R.bind_assoc]
      congr 1; funext x; congr 1; funext y; congr 1; funext r
      cases r with
      | true => simp only [if_true, R.bind_assoc]; rfl
      | false => rfl
    exact e ▸ p

/-! ### and, or, if else -/
theorem se_and {b' : Expr} {rest : List Expr} (ha : SE g xo F0 H0 W X a fa) (hb : SE g xo F0 H0 W X (.BoolOp .And (b' :: rest) pos) fb) :
    SE g xo F0 H0 W X (.BoolOp .And (a :: b' :: rest) pos) (fun env => (fa env).bind fun x => (asB x.2).bind fun b => if b then fb env else .ok (.frz, .bl false)) := by
  refine (pe_and ha hb).imp fun σ H Q ⟨F, env, R0, p⟩ => ?_
  refine bindE (postE_ok Q) R0 p fun mv v F1 H1 e1 a1 R1 p1 => ?_
  obtain ⟨i, e2, p2⟩ := post_bl (postE_ok Q) p1
  have z := rd_of a1
  rw [e2] at z
  refine ⟨i, z.bl, ?_⟩
  cases i with
  | true => exact iteT ⟨F1, env, R1, p2⟩
  | false => exact iteF (PostE.frz p2 R1.ext.sub (Rep.mkB _))
theorem se_or {b' : Expr} {rest : List Expr} (ha : SE g xo F0 H0 W X a fa) (hb : SE g xo F0 H0 W X (.BoolOp .Or (b' :: rest) pos) fb) :
    SE g xo F0 H0 W X (.BoolOp .Or (a :: b' :: rest) pos) (fun env => (fa env).bind fun x => (asB x.2).bind fun b => if b then .ok (.frz, .bl true) else fb env) := by
  refine (pe_or ha hb).imp fun σ H Q ⟨F, env, R0, p⟩ => ?_
  refine bindE (postE_ok Q) R0 p fun mv v F1 H1 e1 a1 R1 p1 => ?_
  obtain ⟨i, e2, p2⟩ := post_bl (postE_ok Q) p1
  have z := rd_of a1
  rw [e2] at z
  refine ⟨i, z.bl, ?_⟩
  cases i with
  | true => exact iteT (PostE.frz p2 R1.ext.sub (Rep.mkB _))
  | false => exact iteF ⟨F1, env, R1, p2⟩
theorem se_one {op : BoolOp} (ha : SE g xo F0 H0 W X a fa) : SE g xo F0 H0 W X (.BoolOp op [a] pos) (fun env => (fa env).bind fun x => (asB x.2).bind fun b => .ok (.frz, .bl b)) := by
  refine (pe_one ha).imp fun σ H Q ⟨F, env, R0, p⟩ => ?_
  refine bindE (postE_ok Q) R0 p fun mv v F1 H1 e1 a1 R1 p1 => ?_
  obtain ⟨i, e2, p2⟩ := post_bl (postE_ok Q) p1
  have z := rd_of a1
  rw [e2] at z
  rw [z.bl]
  exact PostE.frz p2 R1.ext.sub (Rep.mkB _)
/-- as tests, of any 'whole' -/
abbrev SW (g : Tab) (xo : XO) (F0 H0 : Hp) (W : WX) (X : Cx) (e : Expr) (f : Env → R Bool) : Prop := PW X e (TTo X.K g xo F0 H0 W f)
theorem sw_and1 (ha : STs g xo F0 H0 W X a ft) : SW g xo F0 H0 W X (.BoolOp .And [a] pos) ft := pw_and1 ha
theorem sw_or1 (ha : STs g xo F0 H0 W X a ft) : SW g xo F0 H0 W X (.BoolOp .Or [a] pos) ft := pw_or1 ha
theorem sw_and {b' : Expr} {rest : List Expr} {ft' : Env → R Bool} (ha : STs g xo F0 H0 W X a ft) (hb : SW g xo F0 H0 W X (.BoolOp .And (b' :: rest) pos) ft') :
    SW g xo F0 H0 W X (.BoolOp .And (a :: b' :: rest) pos) (fun env => (ft env).bind fun b => if b then ft' env else .ok false) := by
  refine (pw_and ha hb).imp fun σ H Q ⟨F, env, R0, p⟩ => ?_
  refine bindT' (postT_ok Q) R0 p fun b F1 H1 e1 R1 p1 => ?_
  cases b with
  | true => exact iteT ⟨F1, env, R1, p1⟩
  | false => exact iteF (p1 F1 H1 (Ext.refl R1.ext.sub))
theorem sw_or {b' : Expr} {rest : List Expr} {ft' : Env → R Bool} (ha : STs g xo F0 H0 W X a ft) (hb : SW g xo F0 H0 W X (.BoolOp .Or (b' :: rest) pos) ft') :
    SW g xo F0 H0 W X (.BoolOp .Or (a :: b' :: rest) pos) (fun env => (ft env).bind fun b => if b then .ok true else ft' env) := by
  refine (pw_or ha hb).imp fun σ H Q ⟨F, env, R0, p⟩ => ?_
  refine bindT' (postT_ok Q) R0 p fun b F1 H1 e1 R1 p1 => ?_
  cases b with
  | true => exact iteT (p1 F1 H1 (Ext.refl R1.ext.sub))
  | false => exact iteF ⟨F1, env, R1, p1⟩
theorem se_ife (hc : STs g xo F0 H0 W X c (fun env => (fc env).bind fun v => asB v.2)) (ha : SE g xo F0 H0 W X a fa) (hb : SE g xo F0 H0 W X b fb) :
    SE g xo F0 H0 W X (.IfExp c a b pos) (fun env => (fc env).bind fun x => (asB x.2).bind fun r => if r then fa env else fb env) := by
  refine (pe_ifExp hc ha hb).imp fun σ H Q ⟨F, env, R0, p⟩ => ?_
  have e : ((fc env).bind fun x => (asB x.2).bind fun r => if r then fa env else fb env) = ((fc env).bind fun v => asB v.2).bind fun r => if r then fa env else fb env := by rw [R.bind_assoc]
  have p : PostE X.K g H0 W σ Q F H (((fc env).bind fun v => asB v.2).bind fun r => if r then fa env else fb env) := e ▸ p
  refine bindT' (postE_ok Q) R0 p fun r F1 H1 e1 R1 p1 => ?_
  cases r with
  | true => exact iteT ⟨F1, env, R1, p1⟩
  | false => exact iteF ⟨F1, env, R1, p1⟩
theorem pt_ifExp {tA tB tC : TT} (hc : PT X c tC) (ha : PT X a tA) (hb : PT X b tB) : PT X (.IfExp c a b pos) (fun σ H Q => tC σ H fun r H1 => if r = true then tA σ H1 Q else tB σ H1 Q) := by
  refine ⟨fun pins s σ H Q I h => ?_⟩
  show wpAny _ _ (do if ← isTrue c X.env (PySem.eval c X.env) then isTrue a X.env (PySem.eval a X.env) else isTrue b X.env (PySem.eval b X.env)) _ _ _
  refine wpAny_bind (thn (hc.run pins s σ H _ I h) fun r s1 ⟨H1, I1, q1⟩ => ?_)
  cases r with
  | true => exact ha.run pins s1 σ H1 Q I1 q1
  | false => exact hb.run pins s1 σ H1 Q I1 q1
theorem st_ife (hc : STs g xo F0 H0 W X c (fun env => (fc env).bind fun v => asB v.2)) (ha : STs g xo F0 H0 W X a (fun env => (fa env).bind fun v => asB v.2)) (hb : STs g xo F0 H0 W X b (fun env => (fb env).bind fun v => asB v.2)) :
    STs g xo F0 H0 W X (.IfExp c a b pos) (fun env => ((fc env).bind fun x => (asB x.2).bind fun r => if r then fa env else fb env).bind fun v => asB v.2) := by
  refine (pt_ifExp hc ha hb).imp fun σ H Q ⟨F, env, R0, p⟩ => ?_
  have e : (((fc env).bind fun x => (asB x.2).bind fun r => if r then fa env else fb env).bind fun v => asB v.2) = ((fc env).bind fun v => asB v.2).bind fun r => if r then (fa env).bind fun v => asB v.2 else (fb env).bind fun v => asB v.2 := by
    simp only [R.bind_assoc]
    congr 1; funext x; congr 1; funext r
    cases r <;> rfl
  have p : PostT X.K g W σ Q F H (((fc env).bind fun v => asB v.2).bind fun r => if r then (fa env).bind fun v => asB v.2 else (fb env).bind fun v => asB v.2) := e ▸ p
  refine bindT' (postT_ok Q) R0 p fun r F1 H1 e1 R1 p1 => ?_
  cases r with
  | true => exact iteT ⟨F1, env, R1, p1⟩
  | false => exact iteF ⟨F1, env, R1, p1⟩

/-! ### places, slices -/
theorem atIx_atI {α : Type} {xs : List α} {i : Int} : atIx xs i = atI xs i := by
  unfold atIx atI ixN
  by_cases h : 0 ≤ i
  · rw [if_pos h, if_pos h]
    by_cases h1 : i < xs.length
    · rw [if_pos h1, Option.bind_some]
    · rw [if_neg h1, Option.bind_none, List.getElem?_eq_none (by omega)]
  · rw [if_neg h, if_neg h]
    by_cases h1 : -(xs.length : Int) ≤ i
    · rw [if_pos h1, if_pos (by omega), Option.bind_some]
    · rw [if_neg h1, if_neg (by omega), Option.bind_none]
theorem RepL.atI {K : PySem.W.Frag} {F : Hp} {ds : List D} {vs : List V} {i : Int} {d : D} (h : RepL K g F ds vs) (e : atIx ds i = some d) : ∃ v, L2.atI vs i = some v ∧ Rep K g F d v := by
  rw [atIx_atI] at e
  unfold L2.atI at e ⊢
  rw [h.length]
  cases q : ixN ds.length i with
  | none => rw [q] at e; cases e
  | some j =>
    rw [q, Option.bind_some] at e
    obtain ⟨v, h1, h2⟩ := h.get e
    exact ⟨v, h1, h2⟩
theorem se_ix (hw : g.wd = X.w) (hu : X.A.units + 65 < cLine) (hs : PlainIx b) (ha : SE g xo F0 H0 W X a fa) (hb : SE g xo F0 H0 W X b fb) : SE g xo F0 H0 W X (.Subscript a b pos) (fun env => (fa env).bind fun x => (fb env).bind fun y => (ixOp x.2 y.2).bind fun d => .ok (.frz, d)) := by
  refine (pe_ix (ix_seq.or (ix_dct hw hu)) ha hb hs).imp fun σ H Q ⟨F, env, R0, p⟩ => ?_
  refine bindE (postE_ok Q) R0 p fun mv v F1 H1 e1 a1 R1 p1 => ?_
  refine bindE (postE_ok Q) R1 p1 fun mw w F2 H2 e2 a2 R2 p2 => ?_
  have z1 := (rd_of a1).stop e2
  have z2 := rd_of a2
  have s := R2.ext.sub
  unfold ixOp at p2
  split at p2
  · rename_i xs i q1 q2
    rw [q1] at z1
    rw [q2] at z2
    obtain ⟨q, vs, rfl, hq, r⟩ := z1.lst s
    split at p2
    · rename_i d hd
      obtain ⟨u, hu, ru⟩ := RepL.atI r hd
      exact .inl (.inl ⟨q, vs, i, u, rfl, z2.int, SqL.of hq, hu, PostE.frz p2 s ru⟩)
    · exact p2.elim
  · rename_i xs i q1 q2
    rw [q1] at z1
    rw [q2] at z2
    obtain ⟨q, vs, rfl, hq, r, _⟩ := z1.tup s
    split at p2
    · rename_i d hd
      obtain ⟨u, hu, ru⟩ := RepL.atI r hd
      exact .inl (.inr (.inl ⟨q, vs, i, u, rfl, z2.int, hq, hu, PostE.frz p2 s ru⟩))
    · exact p2.elim
  · rename_i xs i q1 q2
    rw [q1] at z1
    rw [q2] at z2
    obtain ⟨q, rfl, hq⟩ := z1.scr s
    split at p2
    · rename_i n hd
      refine .inl (.inl ⟨q, _, i, .int n, rfl, z2.int, hq, ?_, PostE.frz p2 s (Rep.mkI n)⟩)
      rw [atIx_atI] at hd
      unfold L2.atI at hd ⊢
      rw [List.length_map]
      cases e3 : ixN xs.length i with
      | none => rw [e3] at hd; cases hd
      | some j =>
        rw [e3, Option.bind_some] at hd
        rw [Option.bind_some, List.getElem?_map, hd]
        rfl
    · exact p2.elim
  · rename_i ks ds q1
    rw [q1] at z1
    split at p2
    · rename_i hk
      split at p2
      · rename_i d hd
        obtain ⟨a, ep, kvs, vvs, rfl, hh⟩ := z1.has s
        exact .inr ⟨F2, a, ep, ks, ds, kvs, vvs, _, d, rfl, s, hh, z2.key hk, hk, hd, fun v r => PostE.frz p2 s r⟩
      · exact p2.elim
    · exact p2.elim
  · exact p2.elim
/-- a part of a slice -/
theorem so_none : PO X (none : Option Expr) tNoPart := po_none
theorem sIx_clip (n d : Nat) (o : Option Int) : HT.sIx n d o = clip n d o := by
  cases o with
  | none => rfl
  | some v =>
    show (if v < 0 then (v + (n : Int)).toNat else min v.toNat n) = (if 0 ≤ v then min v.toNat n else (max (v + n) 0).toNat)
    by_cases h : 0 ≤ v
    · rw [if_neg (by omega), if_pos h]
    · rw [if_pos (by omega), if_neg h]; omega
theorem RepL.cut {K : PySem.W.Frag} {F : Hp} {ds : List D} {vs : List V} (h : RepL K g F ds vs) (lo hi : Option Int) : RepL K g F (cutL ds lo hi) (cutV vs lo hi) := by
  unfold cutL cutV
  simp only [sIx_clip, h.length]
  exact (h.drop _).take _
abbrev fOpt (l : Option (Env → R Val)) : Env → R (Option Int) := fun env => match l with
  | none => .ok none
  | some f => (f env).bind fun x => (asInt x.2).bind fun i => .ok (some i)
def SO (g : Tab) (xo : XO) (F0 H0 : Hp) (W : WX) (X : Cx) (e : Option Expr) (l : Option (Env → R Val)) : Prop := match e, l with
  | none, none => True
  | some e, some f => SE g xo F0 H0 W X e f
  | _, _ => False
def tOpt (K : PySem.W.Frag) (g : Tab) (xo : XO) (F0 H0 : Hp) (W : WX) (l : Option (Env → R Val)) : TO := match l with
  | none => tNoPart
  | some f => tPart (TEo K g xo F0 H0 W f)
theorem part_bind {β : Type} {σ : L2.St} {H : Hp} {Post : Hp → Hp → R β → Prop} {env : Env} {k : Option Int → R β} {Q' : Option Int → Hp → Prop} {F : Hp} {el : Option Expr} {l : Option (Env → R Val)} (P : PostOk X.K g W σ Post) (hl : SO g xo F0 H0 W X el l) (R0 : FRel X.K g xo F0 H0 F H σ env) (h : Post F H ((fOpt l env).bind k))
    (hk : ∀ o F' H', Ext F H F' H' → FRel X.K g xo F0 H0 F' H' σ env → Post F' H' (k o) → Q' o H') : tOpt X.K g xo F0 H0 W l σ H Q' := by
  cases l with
  | none => exact hk none F H (Ext.refl R0.ext.sub) R0 h
  | some f =>
    show TEo X.K g xo F0 H0 W f σ H _
    simp only [fOpt, R.bind_assoc] at h
    refine bindE P R0 h fun mv v F1 H1 e1 a1 R1 p1 => ?_
    simp only [R.bind_ok] at p1
    obtain ⟨i, e2, p2⟩ := post_int P p1
    have z := rd_of a1
    rw [e2] at z
    exact ⟨i, z.int, hk (some i) F1 H1 e1 R1 p2⟩
theorem po_of {el : Option Expr} {l : Option (Env → R Val)} (hl : SO g xo F0 H0 W X el l) : PO X el (tOpt X.K g xo F0 H0 W l) := by
  cases el with
  | none =>
    cases l with
    | none => exact po_none
    | some f => exact hl.elim
  | some e =>
    cases l with
    | none => exact hl.elim
    | some f => exact po_some hl
theorem se_slc {el eh : Option Expr} {l h : Option (Env → R Val)} {p2 : Pos} (ha : SE g xo F0 H0 W X a fa) (hl : SO g xo F0 H0 W X el l) (hh : SO g xo F0 H0 W X eh h) :
    SE g xo F0 H0 W X (.Subscript a (.Slice el eh none p2) pos) (fun env => (fa env).bind fun x => (fOpt l env).bind fun lo => (fOpt h env).bind fun hi => sliceOp x.2 lo hi) := by
  refine (pe_slice (sl_list.or sl_tupA) ha (po_of hl) (po_of hh)).imp fun σ H Q ⟨F, env, R0, p⟩ => ?_
  refine bindE (postE_ok Q) R0 p fun mv v F1 H1 e1 a1 R1 p1 => ?_
  refine part_bind (postE_ok Q) hl R1 p1 fun lo F2 H2 e2 R2 p2 => ?_
  refine part_bind (postE_ok Q) hh R2 p2 fun hi F3 H3 e3 R3 p3 => ?_
  have z := ((rd_of a1).stop e2).stop e3
  have s := R3.ext.sub
  unfold sliceOp at p3
  split at p3
  · rename_i xs q1
    rw [q1] at z
    obtain ⟨q, vs, rfl, hq, r⟩ := z.lst s
    exact .inl ⟨q, vs, rfl, SqL.of hq, fun t ht => PostE.newL p3 s (r.cut lo hi) t ht⟩
  · rename_i xs q1
    rw [q1] at z
    obtain ⟨q, vs, rfl, hq, r, hf⟩ := z.tup s
    refine .inr ⟨q, vs, rfl, hq, fun hw => ?_, fun hw t ht => PostE.newT p3 s (r.cut lo hi) t ht⟩
    refine PostE.frz p3 s (Rep.mkT hf ?_)
    have e4 : cutL xs lo hi = xs := by
      unfold cutL
      have h1 := hw.1
      have h2 := hw.2
      rw [sIx_clip, r.length] at h1
      rw [sIx_clip, r.length] at h2
      simp only [h1, h2]
      simp
    rw [e4]; exact r
  · exact p3.elim
/-! ### {} -/
theorem se_dnew : SE g xo F0 H0 W X (.Dict [] [] pos) (fun _ => .ok (.own, .dct [] [])) := by
  refine ⟨fun pins s σ H Q I ⟨F, env, R0, p⟩ => ?_⟩
  refine PySem.wpAny_Dict_empty ⟨.ref s.heap.objs.size, upd H s.heap.objs.size (dictHO s.heap.objs.size 0 []), I.laid (t' := s.toks) (fun _ _ q => Heap.get?_push_of_some _ q) (Nat.le_refl _) (dict_new s.heap I.big), rfl, ?_⟩
  have hq : H s.heap.objs.size = none := I.hok.fresh (Nat.le_refl _)
  refine p _ F _ ((Ext.refl R0.ext.sub).laid hq) ⟨_, rfl, hq, ?_, 0, [], [], upd_same, .nil, .nil, List.nodup_nil, rfl, rfl⟩
  cases e : F s.heap.objs.size with
  | none => rfl
  | some u => rw [R0.ext.sub _ u e] at hq; cases hq
end
end Fx

namespace Fx
open PySem PySem.Spec PyProof.Rows L2
section
variable {g : Tab} {xo : XO} {F0 H0 : Hp} {W : WX} {X : Cx} {e a b c : Expr} {es : List Expr} {pos p apos : Pos} {fa fb fc f : Env → R Val} {fs : Env → R (List Val)} {ft : Env → R Bool}

inductive RDs (K : PySem.W.Frag) (g : Tab) (F H : Hp) : List D → List V → Prop where
  | nil : RDs K g F H [] []
  | cons {d : D} {v : V} {ds : List D} {vs : List V} : RD K g F H d v → RDs K g F H ds vs → RDs K g F H (d :: ds) (v :: vs)
theorem AReps.rds {K : PySem.W.Frag} {F H : Hp} {mvs : List Val} {vs : List V} (h : AReps K g H0 F H mvs vs) : RDs K g F H (mvs.map Prod.snd) vs := by
  induction h with
  | nil => exact .nil
  | cons h _ ih => exact .cons h.rd ih
theorem RDs.one {K : PySem.W.Frag} {F H : Hp} {d : D} {vs : List V} (h : RDs K g F H [d] vs) : ∃ v, vs = [v] ∧ RD K g F H d v := by
  cases h with
  | cons h t => cases t; exact ⟨_, rfl, h⟩
theorem RDs.two {K : PySem.W.Frag} {F H : Hp} {d e : D} {vs : List V} (h : RDs K g F H [d, e] vs) : ∃ v w, vs = [v, w] ∧ RD K g F H d v ∧ RD K g F H e w := by
  cases h with
  | cons h t => obtain ⟨w, rfl, h2⟩ := t.one; exact ⟨_, _, rfl, h, h2⟩
theorem boolsOf_rep {K : PySem.W.Frag} {F : Hp} : ∀ {ys : List D} {vs : List V} {bs : List Bool}, RepL K g F ys vs → boolsOf ys = some bs → vs = bs.map V.bl
  | [], vs, b, r, e => by rw [r.inv0]; cases e; rfl
  | y :: ys, vs, b, r, e => by
    obtain ⟨v, w, rfl, r1, r2⟩ := r.inv
    cases y with
    | bl c =>
      simp only [boolsOf] at e
      cases q : boolsOf ys with
      | none => rw [q] at e; cases e
      | some bs' => rw [q] at e; cases e; rw [r1.bl, boolsOf_rep r2 q]; rfl
    | _ => cases e
theorem intsOf_rep {K : PySem.W.Frag} {F : Hp} : ∀ {ys : List D} {vs : List V} {bs : List Int}, RepL K g F ys vs → intsOf ys = some bs → vs = bs.map V.int
  | [], vs, b, r, e => by rw [r.inv0]; cases e; rfl
  | y :: ys, vs, b, r, e => by
    obtain ⟨v, w, rfl, r1, r2⟩ := r.inv
    cases y with
    | int c =>
      simp only [intsOf] at e
      cases q : intsOf ys with
      | none => rw [q] at e; cases e
      | some bs' => rw [q] at e; cases e; rw [r1.int, intsOf_rep r2 q]; rfl
    | _ => cases e

theorem se_bf {id : String} {x : Str} {r : List V → Hp → VK → Prop} {k : List D → R Val} (hc : CallR X (.builtin id) r) (hg : Gl X x) (hm : X.mg x = none) (hv : bootBuiltins x = some (.builtin id)) (hn : x ≠ "__name__") (hdb : (x == ("__debug__" : Str)) = false)
    (hr : ∀ σ Q F H ds vs, (∀ a o, F a = some o → H a = some o) → RDs X.K g F H ds vs → PostE X.K g H0 W σ Q F H (k ds) → r vs H Q) (hne : ∃ e es', es = e :: es' ∧ starEach (e :: es') X.env = (false, PySem.eval e X.env) :: starEach es' X.env ∧ (backTo pos (starEach es' X.env)).any (·.1) = false)
    (ha : SA g xo F0 H0 W X es fs) : SE g xo F0 H0 W X (.Call (.Name x p) es [] pos) (fun env => (fs env).bind fun vs => k (vs.map Prod.snd)) := by
  obtain ⟨e, es', rfl, he, hpl⟩ := hne
  refine (pe_callB hc hg hm hv ha hn hdb he hpl).imp fun σ H Q ⟨F, env, R0, p⟩ => ?_
  exact bindA (postE_ok Q) R0 p fun mvs vs F1 H1 e1 a1 R1 p1 => hr σ Q F1 H1 _ _ R1.ext.sub a1.rds p1
theorem se_bt {T : String} {x : Str} {r : List V → Hp → VK → Prop} {k : List D → R Val} (hc : CallR X (.type T) r) (hg : Gl X x) (hm : X.mg x = none) (hv : bootBuiltins x = some (.type T)) (hn : x ≠ "__name__") (hdb : (x == ("__debug__" : Str)) = false)
    (hr : ∀ σ Q F H ds vs, (∀ a o, F a = some o → H a = some o) → RDs X.K g F H ds vs → PostE X.K g H0 W σ Q F H (k ds) → r vs H Q) (hne : ∃ e es', es = e :: es' ∧ starEach (e :: es') X.env = (false, PySem.eval e X.env) :: starEach es' X.env ∧ (backTo pos (starEach es' X.env)).any (·.1) = false)
    (ha : SA g xo F0 H0 W X es fs) : SE g xo F0 H0 W X (.Call (.Name x p) es [] pos) (fun env => (fs env).bind fun vs => k (vs.map Prod.snd)) := by
  obtain ⟨e, es', rfl, he, hpl⟩ := hne
  refine (pe_callTy hc hg hm hv ha hn hdb he hpl).imp fun σ H Q ⟨F, env, R0, p⟩ => ?_
  exact bindA (postE_ok Q) R0 p fun mvs vs F1 H1 e1 a1 R1 p1 => hr σ Q F1 H1 _ _ R1.ext.sub a1.rds p1
/-- the names of the built-ins -/
def biName : Bi → Str
  | .len => "len"
  | .abs => "abs"
  | .int => "int"
  | .bool => "bool"
  | .all => "all"
  | .any => "any"
  | .sum => "sum"
  | .tuple => "tuple"
  | .list => "list"
  | .sorted => "sorted"
  | .min => "min"
  | .max => "max"
/-- those that have a rule -/
def biDone : Bi → Bool
  | .bool => false
  | .sorted => false
  | _ => true
theorem se_bi {bi : Bi} (hw : g.wd = X.w) (hok : biDone bi = true) (hcl : X.calm = true) (hg : Gl X (biName bi)) (hm : X.mg (biName bi) = none) (hne : ∃ e es', es = e :: es' ∧ starEach (e :: es') X.env = (false, PySem.eval e X.env) :: starEach es' X.env ∧ (backTo pos (starEach es' X.env)).any (·.1) = false)
    (ha : SA g xo F0 H0 W X es fs) : SE g xo F0 H0 W X (.Call (.Name (biName bi) p) es [] pos) (fun env => (fs env).bind fun vs => biOp bi (vs.map Prod.snd)) := by
  cases bi with
  | len =>
    refine se_bf (id := "len") (x := "len") (k := biLen) (CallR.or call_len_seq (call_dlen hw)) hg hm boot_len (by decide) (by decide) (fun σ Q F H ds vs s r p => ?_) hne ha
    unfold biLen at p
    split at p
    · obtain ⟨v, rfl, r1⟩ := r.one
      obtain ⟨q, ws, rfl, hq, rl⟩ := r1.lst s
      split at p
      · exact .inl ⟨q, ws, rfl, .inl (SqL.of hq), PostE.frz p s (by rw [rl.length]; exact Rep.mkI _)⟩
      · exact p.elim
    · obtain ⟨v, rfl, r1⟩ := r.one
      obtain ⟨q, ws, rfl, hq, rl, _⟩ := r1.tup s
      split at p
      · exact .inl ⟨q, ws, rfl, .inr hq, PostE.frz p s (by rw [rl.length]; exact Rep.mkI _)⟩
      · exact p.elim
    · obtain ⟨v, rfl, r1⟩ := r.one
      obtain ⟨q, rfl, hq⟩ := r1.scr s
      split at p
      · exact .inl ⟨q, _, rfl, .inl hq, PostE.frz p s (by rw [List.length_map]; exact Rep.mkI _)⟩
      · exact p.elim
    · obtain ⟨v, rfl, r1⟩ := r.one
      obtain ⟨a, ep, kvs, vvs, rfl, hh⟩ := r1.has s
      split at p
      · exact .inr ⟨F, a, ep, _, _, kvs, vvs, rfl, s, hh, PostE.frz p s (Rep.mkI _)⟩
      · exact p.elim
    · exact p.elim
  | abs =>
    refine se_bf (id := "abs") (x := "abs") (k := biAbs) call_abs hg hm (by decide +kernel) (by decide) (by decide) (fun σ Q F H ds vs s r p => ?_) hne ha
    unfold biAbs at p
    split at p
    · obtain ⟨v, rfl, r1⟩ := r.one
      exact ⟨_, by rw [r1.int], PostE.frz p s (Rep.mkI _)⟩
    · exact p.elim
  | int =>
    refine se_bt (T := "int") (x := "int") (k := biInt) call_int1 hg hm (by decide +kernel) (by decide) (by decide) (fun σ Q F H ds vs s r p => ?_) hne ha
    unfold biInt at p
    split at p
    · obtain ⟨v, rfl, r1⟩ := r.one
      exact .inl ⟨_, by rw [r1.int], PostE.frz p s (Rep.mkI _)⟩
    · obtain ⟨v, rfl, r1⟩ := r.one
      exact .inr ⟨_, by rw [r1.bl], PostE.frz p s (Rep.mkI _)⟩
    · exact p.elim
  | all =>
    refine se_bf (id := "all") (x := "all") (k := biAll) (cr_all hcl) hg hm (by decide +kernel) (by decide) (by decide) (fun σ Q F H ds vs s r p => ?_) hne ha
    unfold biAll at p
    split at p
    · rename_i ys
      obtain ⟨v, rfl, r1⟩ := r.one
      obtain ⟨q, ws, rfl, hq, rl⟩ := r1.lst s
      cases e : boolsOf ys with
      | none => rw [e] at p; exact p.elim
      | some bs =>
        rw [e] at p
        rw [boolsOf_rep rl e] at hq
        exact ⟨q, bs, rfl, SqL.of hq, PostE.frz p s (Rep.mkB _)⟩
    · exact p.elim
  | any =>
    refine se_bf (id := "any") (x := "any") (k := biAny) (cr_any hcl) hg hm (by decide +kernel) (by decide) (by decide) (fun σ Q F H ds vs s r p => ?_) hne ha
    unfold biAny at p
    split at p
    · rename_i ys
      obtain ⟨v, rfl, r1⟩ := r.one
      obtain ⟨q, ws, rfl, hq, rl⟩ := r1.lst s
      cases e : boolsOf ys with
      | none => rw [e] at p; exact p.elim
      | some bs =>
        rw [e] at p
        rw [boolsOf_rep rl e] at hq
        exact ⟨q, bs, rfl, SqL.of hq, PostE.frz p s (Rep.mkB _)⟩
    · exact p.elim
  | sum =>
    refine se_bf (id := "sum") (x := "sum") (k := biSum) (cr_sum hcl) hg hm (by decide +kernel) (by decide) (by decide) (fun σ Q F H ds vs s r p => ?_) hne ha
    unfold biSum at p
    split at p
    · rename_i ys
      obtain ⟨v, rfl, r1⟩ := r.one
      obtain ⟨q, ws, rfl, hq, rl⟩ := r1.lst s
      cases e : intsOf ys with
      | none => rw [e] at p; exact p.elim
      | some bs =>
        rw [e] at p
        rw [intsOf_rep rl e] at hq
        exact ⟨q, bs, rfl, SqL.of hq, PostE.frz p s (Rep.mkI _)⟩
    · exact p.elim
  | tuple =>
    refine se_bt (T := "tuple") (x := "tuple") (k := biTuple) call_tuple_of hg hm (by decide +kernel) (by decide) (by decide) (fun σ Q F H ds vs s r p => ?_) hne ha
    unfold biTuple at p
    split at p
    · obtain ⟨v, rfl, r1⟩ := r.one
      obtain ⟨q, ws, rfl, hq, rl⟩ := r1.lst s
      exact ⟨q, ws, rfl, .inl ⟨SqL.of hq, fun t ht => PostE.newT p s rl t ht⟩⟩
    · obtain ⟨v, rfl, r1⟩ := r.one
      obtain ⟨q, ws, rfl, hq, rl, hf⟩ := r1.tup s
      exact ⟨q, ws, rfl, .inr ⟨hq, PostE.frz p s (Rep.mkT hf rl)⟩⟩
    · exact p.elim
  | list =>
    refine se_bt (T := "list") (x := "list") (k := biList) (CallR.or call_list_of (call_dlist hw hcl)) hg hm (by decide +kernel) (by decide) (by decide) (fun σ Q F H ds vs s r p => ?_) hne ha
    unfold biList at p
    split at p
    · obtain ⟨v, rfl, r1⟩ := r.one
      obtain ⟨a, ep, kvs, vvs, rfl, hh⟩ := r1.has s
      exact .inr ⟨F, a, ep, _, _, kvs, vvs, rfl, s, hh, fun t ht => PostE.newL p s hh.rk t ht⟩
    · obtain ⟨v, rfl, r1⟩ := r.one
      obtain ⟨q, ws, rfl, hq, rl⟩ := r1.lst s
      exact .inl ⟨q, ws, rfl, .inl (SqL.of hq), fun t ht => PostE.newL p s rl t ht⟩
    · obtain ⟨v, rfl, r1⟩ := r.one
      obtain ⟨q, ws, rfl, hq, rl, hf⟩ := r1.tup s
      exact .inl ⟨q, ws, rfl, .inr hq, fun t ht => PostE.newL p s rl t ht⟩
    · exact p.elim
  | max =>
    refine se_bf (id := "max") (x := "max") (k := biMax) (call_max2 hcl) hg hm (by decide +kernel) (by decide) (by decide) (fun σ Q F H ds vs s r p => ?_) hne ha
    unfold biMax at p
    split at p
    · obtain ⟨v, w, rfl, r1, r2⟩ := r.two
      exact ⟨_, _, by rw [r1.int, r2.int], PostE.frz p s (Rep.mkI _)⟩
    · exact p.elim
  | min =>
    refine se_bf (id := "min") (x := "min") (k := biMin) (call_min2 hcl) hg hm (by decide +kernel) (by decide) (by decide) (fun σ Q F H ds vs s r p => ?_) hne ha
    unfold biMin at p
    split at p
    · obtain ⟨v, w, rfl, r1, r2⟩ := r.two
      exact ⟨_, _, by rw [r1.int, r2.int], PostE.frz p s (Rep.mkI _)⟩
    · exact p.elim
  | bool => cases hok
  | sorted => cases hok

/-! ### isinstance -/
def tyName : Ty → Str
  | .int => "int"
  | .bool => "bool"
  | .str => "str"
  | .tuple => "tuple"
  | .list => "list"
  | .dict => "dict"
  | .cls _ x => x
def tyStr : Ty → String
  | .int => "int"
  | .bool => "bool"
  | .str => "str"
  | .tuple => "tuple"
  | .list => "list"
  | .dict => "dict"
  | .cls _ _ => ""
def isCls : Ty → Bool
  | .cls _ _ => true
  | _ => false
/-- what isinstance asks of the text -/
structure IsiOk (g : Tab) (X : Cx) (t : Ty) : Prop where
  isi : X.mg "isinstance" = none
  bt : isCls t = false → X.mg (tyName t) = none
  ct : ∀ C x, t = .cls C x → X.mg x = some (.ref (g.ca C)) ∧ Cls X.K (g.ca C) ∧ PySem.W.findIn X.K (.ref (g.ca C)) "__class__" = some (some (.builtin "object.__class__")) ∧
    PySem.W.specialIn X.K (.builtin "object.__class__") "__get__" = some (some (.builtin "getset_descriptor.__get__")) ∧ PySem.W.takesIn X.K (.builtin "object.__class__") = some true ∧ PySem.W.mroIn X.K (g.ca C) (.type "object") = some true
theorem tyV_tup {K : PySem.W.Frag} {H : Hp} {a : Addr} {vs : List V} (h : SqT K H a vs) : TyX K H (.ref a) (.type "tuple") := by
  rcases h with (h | ⟨o, h⟩) | ⟨o, its, n, hk, hc, _⟩
  · exact .base (.tup h)
  · exact .fTuple h
  · exact .kTuple hk hc
/-- the type of a value that is known -/
def dTy : D → Option String
  | .non => some "NoneType"
  | .bl _ => some "bool"
  | .int _ => some "int"
  | .str _ => some "str"
  | .tup _ => some "tuple"
  | .lst _ => some "list"
  | _ => none
theorem dTy_rd {K : PySem.W.Frag} {F H : Hp} {d : D} {v : V} {n : String} (h : RD K g F H d v) (s : ∀ a o, F a = some o → H a = some o) (e : dTy d = some n) : TyX K H v (.type n) := by
  cases d with
  | non => cases e; rw [h.non]; exact .base .non
  | bl b => cases e; rw [h.bl]; exact .base (.bl b)
  | int i => cases e; rw [h.int]; exact .base (.int i)
  | str x => cases e; rw [h.str]; exact .base (.str x)
  | tup xs =>
    cases e
    obtain ⟨a, vs, rfl, q, _⟩ := h.tup s
    exact tyV_tup q
  | lst xs =>
    cases e
    obtain ⟨a, vs, rfl, q, _⟩ := h.lst s
    exact .base (.lst q)
  | _ => cases e
theorem ofTy_bt {d : D} {t : Ty} {b : Bool} (e : ofTy d t = some b) (ht : isCls t = false) : ∃ n, dTy d = some n ∧ kitB n (tyStr t) = some b := by
  cases d <;> cases t <;> first | (cases ht; done) | (cases e; done) | (cases e; exact ⟨_, rfl, by decide +kernel⟩)
theorem tyName_str {t : Ty} (ht : isCls t = false) : bootBuiltins (tyName t) = some (.type (tyStr t)) := by
  cases t <;> first | (cases ht; done) | (decide +kernel)
theorem se_isi {t : Ty} {px : Pos} (c : IsiOk g X t) (hg : Gl X "isinstance") (hgt : Gl X (tyName t)) (hdt : (tyName t == ("__debug__" : Str)) = false) (hnt : tyName t ≠ "__name__") (hns : starEach [a, .Name (tyName t) px] X.env = (false, PySem.eval a X.env) :: starEach [.Name (tyName t) px] X.env)
    (ha : SE g xo F0 H0 W X a fa) : SE g xo F0 H0 W X (.Call (.Name "isinstance" p) [a, .Name (tyName t) px] [] pos) (fun env => (fa env).bind fun x => (R.ofOpt (ofTy x.2 t)).bind fun b => .ok (.frz, .bl b)) := by
  have hpl : (backTo pos (starEach [.Name (tyName t) px] X.env)).any (·.1) = false := rfl
  cases ht : isCls t with
  | false =>
    have hT : PE X (.Name (tyName t) px) (tC (.ty (tyStr t))) := pe_bltn hgt (c.bt ht) (tyName_str ht) rfl hnt hdt
    refine (pe_callB call_isi hg c.isi (by decide +kernel) (pa_cons ha (pa_cons hT pa_nil rfl) hns) (by decide) (by decide) hns hpl).imp fun σ H Q ⟨F, env, R0, p⟩ => ?_
    refine bindE (postE_ok Q) R0 p fun mv v F1 H1 e1 a1 R1 p1 => ?_
    cases e : ofTy mv.2 t with
    | none => rw [e] at p1; exact p1.elim
    | some b =>
      rw [e] at p1
      obtain ⟨n, hn, hb⟩ := ofTy_bt e ht
      exact ⟨v, .ty (tyStr t), .type n, .type (tyStr t), b, rfl, .ty _, dTy_rd (rd_of a1) R1.ext.sub hn, kit_ty hb, PostE.frz p1 R1.ext.sub (Rep.mkB b)⟩
  | true =>
    cases t with
    | cls C x =>
      obtain ⟨m1, m2, m3, m4, m5, m6⟩ := c.ct C x rfl
      have hT : PE X (.Name x px) (tC (.ref (g.ca C))) := pe_glob hgt m1 rfl hdt
      refine (pe_callB call_isi hg c.isi (by decide +kernel) (pa_cons ha (pa_cons hT pa_nil rfl) hns) (by decide) (by decide) hns hpl).imp fun σ H Q ⟨F, env, R0, p⟩ => ?_
      refine bindE (postE_ok Q) R0 p fun mv v F1 H1 e1 a1 R1 p1 => ?_
      have z := rd_of a1
      cases e : ofTy mv.2 (.cls C x) with
      | none => rw [e] at p1; exact p1.elim
      | some b =>
        rw [e] at p1
        cases e2 : mv.2 with
        | ins C' fs =>
          rw [e2] at e z
          simp only [ofTy] at e
          split at e
          · rename_i hc
            subst hc
            cases e
            obtain ⟨q, dx, vs, rfl, hq, _⟩ := z.ins R1.ext.sub
            exact ⟨.ref q, .ref (g.ca C), .ref (g.ca C), .ref (g.ca C), true, rfl, .own _, .base (.ins hq m2 m3 m4 m5 m6), by unfold PySem.W.kitOne; rw [if_pos (by simp)], PostE.frz p1 R1.ext.sub (Rep.mkB true)⟩
          · cases e
        | _ => rw [e2] at e; cases e
    | _ => cases ht

/-! ### constants of the text -/
/-- a name of the module that is d -/
structure ConOk (g : Tab) (X : Cx) (x : Str) (d : D) : Prop where
  ex : ∃ u v, X.mg x = some u ∧ L2.RelV v u ∧ ∀ F, Rep X.K g F d v
theorem se_gcon {x : Str} {d : D} (c : ConOk g X x d) (hg : Gl X x) (hdb : (x == ("__debug__" : Str)) = false) : SE g xo F0 H0 W X (.Name x pos) (fun _ => .ok (.frz, d)) := by
  obtain ⟨u, v, hm, rv, hr⟩ := c.ex
  exact se_const (pe_glob hg hm rv hdb) hr
/-- a constant of a class, read off the class -/
structure CconOk (g : Tab) (X : Cx) (x : Str) (C : Nat) (m : Str) (d : D) : Prop where
  ex : ∃ mc u v, X.mg x = some (.ref (g.ca C)) ∧ ClX.CRead X.K (g.ca C) mc ∧ ClX.CVal X.K (g.ca C) mc m v u ∧ ∀ F, Rep X.K g F d v
theorem se_ccon {x : Str} {C : Nat} {m : Str} {d : D} {np : Pos} (c : CconOk g X x C m d) (hg : Gl X x) (hdb : (x == ("__debug__" : Str)) = false) (hb : attributeBase (.Name x np) m X.env (PySem.eval (.Name x np) X.env) = PySem.eval (.Name x np) X.env) :
    SE g xo F0 H0 W X (.Attribute (.Name x np) m pos) (fun _ => .ok (.frz, d)) := by
  obtain ⟨mc, u, v, hm, hr, hv, hd⟩ := c.ex
  refine ⟨fun pins s σ H Q I ⟨F, env, R0, p⟩ => ?_⟩
  refine attr_of hb (ld_glob I hg hm (ClX.getcval_ok I hr hv fun s2 I2 => ⟨v, H, I2, hv.rel, ?_⟩) hdb)
  exact PostE.frz p R0.ext.sub (hd F)
end
end Fx

/-! Displays with stars, o[::-1], {k: v}. -/
namespace Fx
open PySem PySem.Spec PyProof.Rows L2
theorem esc_pas' {mv : Val} {y : D} (h : esc mv = .ok y) : esc (pas mv) = .ok y := by
  obtain ⟨m, d⟩ := mv
  cases m <;> first | exact h | cases h
section
variable {K : PySem.W.Frag} {g : Tab} {xo : XO} {F0 H0 : Hp} {W : WX} {σ : L2.St} {H : Hp}
def PostD (K : PySem.W.Frag) (g : Tab) (W : WX) (σ : L2.St) (Q : List V → Hp → Prop) (F H : Hp) (r : R (List D)) : Prop := match r with
  | .ok ds => ∀ vs F' H', Ext F H F' H' → RepL K g F' ds vs → Q vs H'
  | .ex C fs => XP K g W σ F H C fs
  | .no => False
theorem postD_ok (Q : List V → Hp → Prop) : PostOk K g W σ (PostD K g W σ Q) := by
  refine ⟨fun _ _ h => h, fun _ _ _ _ h => h, fun F H F1 H1 r e h => ?_⟩
  cases r with
  | ok ds => exact fun vs F' H' e' x => h vs F' H' (e.trans e') x
  | ex C fs => exact XP.shift h e
  | no => exact h
def TDo (K : PySem.W.Frag) (g : Tab) (xo : XO) (F0 H0 : Hp) (W : WX) (f : Env → R (List D)) : TA := fun σ H Q => ∃ F env, FRel K g xo F0 H0 F H σ env ∧ PostD K g W σ Q F H (f env)
theorem bindD {β : Type} {Post : Hp → Hp → R β → Prop} {f : Env → R (List D)} {env : Env} {k : List D → R β} {Q' : List V → Hp → Prop} {F : Hp} (P : PostOk K g W σ Post) (R0 : FRel K g xo F0 H0 F H σ env) (h : Post F H ((f env).bind k))
    (hk : ∀ ds vs F' H', Ext F H F' H' → RepL K g F' ds vs → FRel K g xo F0 H0 F' H' σ env → Post F' H' (k ds) → Q' vs H') : TDo K g xo F0 H0 W f σ H Q' := by
  refine ⟨F, env, R0, ?_⟩
  cases e : f env with
  | ok b =>
    rw [e, R.bind_ok] at h
    intro vs F' H' e' a
    exact hk b vs F' H' e' a (R0.ext' e') (P.shift _ _ _ _ _ e' h)
  | ex C fs => rw [e, R.bind_ex] at h; exact P.ex _ _ _ _ h
  | no => rw [e, R.bind_no] at h; exact (P.no _ _ h).elim
end
section
variable {g : Tab} {xo : XO} {F0 H0 : Hp} {W : WX} {X : Cx} {e kx vx : Expr} {es : List Expr} {pos sp : Pos} {fa fk fv : Env → R Val} {fr : Env → R (List D)}
theorem sd_nil : PA X [] (TDo X.K g xo F0 H0 W fun _ => .ok []) := (pa_nil (X := X)).imp fun σ H Q ⟨F, env, R0, p⟩ => p [] F H (Ext.refl R0.ext.sub) .nil
theorem sd_cons (ha : SE g xo F0 H0 W X e fa) (hr : PA X es (TDo X.K g xo F0 H0 W fr)) (hs : starEach (e :: es) X.env = (false, PySem.eval e X.env) :: starEach es X.env) :
    PA X (e :: es) (TDo X.K g xo F0 H0 W fun env => (fa env).bind fun v => (esc (pas v)).bind fun x => (fr env).bind fun ys => .ok (x :: ys)) := by
  refine (pa_cons ha hr hs).imp fun σ H Q ⟨F, env, R0, p⟩ => ?_
  refine bindE (postD_ok Q) R0 p fun mv v F1 H1 e1 a1 R1 p1 => ?_
  cases q : esc (pas mv) with
  | ok d =>
    rw [q, R.bind_ok] at p1
    have r := a1.esc q
    refine bindD (postD_ok Q) R1 p1 fun ds vs F2 H2 e2 a2 R2 p2 => ?_
    exact p2 (v :: vs) F2 H2 (Ext.refl R2.ext.sub) (.cons (Rep.mono e2.ff _ _ r) a2)
  | ex C fs => exact absurd q esc_ex
  | no => rw [q] at p1; exact p1.elim
theorem sd_star (ha : SE g xo F0 H0 W X e fa) (hr : PA X es (TDo X.K g xo F0 H0 W fr)) :
    PA X (.Starred e sp :: es) (TDo X.K g xo F0 H0 W fun env => (fa env).bind fun v => (seqItems v.2).bind fun xs => (fr env).bind fun ys => .ok (xs ++ ys)) := by
  refine (StX.pa_star ha hr).imp fun σ H Q ⟨F, env, R0, p⟩ => ?_
  refine bindE (postD_ok Q) R0 p fun mv v F1 H1 e1 a1 R1 p1 => ?_
  have z := rd_of a1
  have s := R1.ext.sub
  cases q : mv.2 with
  | lst xs =>
    rw [q] at z p1
    obtain ⟨t, ws, rfl, ht, r⟩ := z.lst s
    simp only [seqItems, R.bind_ok] at p1
    exact ⟨t, ws, rfl, .inr (SqL.of ht), bindD (postD_ok Q) R1 p1 fun ds vs F2 H2 e2 a2 R2 p2 => p2 (ws ++ vs) F2 H2 (Ext.refl R2.ext.sub) ((RepL.mono e2.ff _ _ r).append a2)⟩
  | tup xs =>
    rw [q] at z p1
    obtain ⟨t, ws, rfl, ht, r, _⟩ := z.tup s
    simp only [seqItems, R.bind_ok] at p1
    exact ⟨t, ws, rfl, .inl ht, bindD (postD_ok Q) R1 p1 fun ds vs F2 H2 e2 a2 R2 p2 => p2 (ws ++ vs) F2 H2 (Ext.refl R2.ext.sub) ((RepL.mono e2.ff _ _ r).append a2)⟩
  | _ => rw [q] at p1; exact p1.elim
theorem se_stlL (ha : PA X es (TDo X.K g xo F0 H0 W fr)) : SE g xo F0 H0 W X (.List es pos) (fun env => (fr env).bind fun ds => if ds.length ≤ sizeL then .ok (.own, .lst ds) else .no) := by
  refine (pe_lst ha).imp fun σ H Q ⟨F, env, R0, p⟩ => ?_
  refine bindD (postE_ok Q) R0 p fun ds vs F1 H1 e1 r R1 p1 => ?_
  split at p1
  · rename_i hz
    exact ⟨by rw [r.length, ← sizeL_eq]; exact hz, fun t ht => PostE.newL p1 R1.ext.sub r t ht⟩
  · exact p1.elim
theorem se_stlT {k : Nat} (ha : PA X es (TDo X.K g xo F0 H0 W fr)) : SE g xo F0 H0 W X (.Tuple es k pos) (fun env => (fr env).bind fun ds => if ds.length ≤ sizeL then .ok (.frz, .tup ds) else .no) := by
  refine (pe_tup ha).imp fun σ H Q ⟨F, env, R0, p⟩ => ?_
  refine bindD (postE_ok Q) R0 p fun ds vs F1 H1 e1 r R1 p1 => ?_
  split at p1
  · rename_i hz
    exact ⟨by rw [r.length, ← sizeL_eq]; exact hz, fun t ht => PostE.newT p1 R1.ext.sub r t ht⟩
  · exact p1.elim
theorem se_srev {k : Nat} {p1 p2 p3 : Pos} (ha : SE g xo F0 H0 W X e fa) : SE g xo F0 H0 W X (.Subscript e (.Slice none none (some (.UnaryOp .USub (.Constant (.int 1) k p1) p2)) p3) pos) (fun env => (fa env).bind fun x => (asLst x.2).bind fun xs => .ok (.own, .lst xs.reverse)) := by
  refine (pe_revL ha).imp fun σ H Q ⟨F, env, R0, p⟩ => ?_
  refine bindE (postE_ok Q) R0 p fun mv v F1 H1 e1 a1 R1 p1 => ?_
  have z := rd_of a1
  have s := R1.ext.sub
  cases q : mv.2 with
  | lst xs =>
    rw [q] at z p1
    obtain ⟨t, ws, rfl, ht, r⟩ := z.lst s
    simp only [asLst_lst, R.bind_ok] at p1
    exact ⟨t, ws, rfl, SqL.of ht, fun t' ht' => PostE.newL p1 s r.reverse t' ht'⟩
  | _ => rw [q] at p1; exact p1.elim
/-! ### {k: v} -/
theorem se_disp (hw : g.wd = X.w) (hu : X.A.units + 65 < cLine) (hk : SE g xo F0 H0 W X kx fk) (hv : SE g xo F0 H0 W X vx fv) :
    SE g xo F0 H0 W X (.Dict [some kx] [vx] pos) (fun env => (noEx (fk env)).bind fun x => (esc (pas x)).bind fun kd => (noEx (fv env)).bind fun y => (esc (pas y)).bind fun vd => if kd.keyOk then .ok (.own, .dct [kd] [vd]) else .no) := by
  refine ⟨fun pins s σ H Q I ⟨F, env, R0, p⟩ => ?_⟩
  dsimp only at p
  cases q1 : fk env with
  | ex C fs => rw [q1] at p; exact p.elim
  | no => rw [q1] at p; exact p.elim
  | ok mk =>
    rw [q1, noEx_ok, R.bind_ok] at p
    cases q2 : esc (pas mk) with
    | ex C fs => exact absurd q2 esc_ex
    | no => rw [q2] at p; exact p.elim
    | ok kd =>
      rw [q2, R.bind_ok] at p
      cases q3 : fv env with
      | ex C fs => rw [q3] at p; exact p.elim
      | no => rw [q3] at p; exact p.elim
      | ok mv =>
        rw [q3, noEx_ok, R.bind_ok] at p
        cases q4 : esc (pas mv) with
        | ex C fs => exact absurd q4 esc_ex
        | no => rw [q4] at p; exact p.elim
        | ok vd =>
          rw [q4, R.bind_ok] at p
          split at p
          · rename_i hko
            refine PySem.wpAny_Dict_any rfl rfl (by simp) (by simp) ?_
            have hq : H s.heap.objs.size = none := I.hok.fresh (Nat.le_refl _)
            have hF : F s.heap.objs.size = none := by
              cases e : F s.heap.objs.size with
              | none => rfl
              | some u => rw [R0.ext.sub _ u e] at hq; cases hq
            have I1 := I.laid (t' := s.toks) (fun _ _ q => Heap.get?_push_of_some _ q) (Nat.le_refl _) (dict_new s.heap I.big)
            have e1 := (Ext.refl R0.ext.sub).laid (o := dictHO s.heap.objs.size 0 []) hq
            generalize s.heap.objs.size = D at *
            refine pairTrees_cons_walk (thn (hk.run pins _ σ _ (fun v H2 => ∃ F2, Ext F (upd H D (dictHO D 0 [])) F2 H2 ∧ Rep X.K g F2 kd v) I1 ⟨F, env, R0.ext' e1, ?_⟩) fun u s2 ⟨v, H2, I2, ru, F2, e2, rk⟩ => ?_)
            · rw [q1]
              intro v F6 H6 e6 x
              obtain ⟨F7, e7, a7⟩ := x.pas e6
              exact ⟨F7, e7, a7.esc q2⟩
            have R2 := (R0.ext' e1).ext' e2
            refine thn (hv.run pins s2 σ H2 (fun z H3 => ∃ F3, Ext F2 H2 F3 H3 ∧ Rep X.K g F3 vd z) I2 ⟨F2, env, R2, ?_⟩) fun u3 s3 ⟨z, H3, I3, rz, F3, e3, rv⟩ => ?_
            · rw [q3]
              intro v F6 H6 e6 x
              obtain ⟨F7, e7, a7⟩ := x.pas e6
              exact ⟨F7, e7, a7.esc q4⟩
            refine pairTrees_nil_walk ?_
            have e23 := e2.trans e3
            have hD3 : H3 D = some (dictHO D 0 []) := e23.hh _ _ upd_same
            have hF3 : F3 D = none := e23.unf upd_same hF
            have dh : DHas X.K g F3 H3 D 0 [] [] [] [] := ⟨hD3, .nil, .nil, List.nodup_nil, rfl, rfl⟩
            show wpAny _ _ (forIn [(u, u3)] PUnit.unit fun (x : Value × Value) (_ : PUnit) => (do dictSet D x.1 x.2; pure (ForInStep.yield PUnit.unit) : Sem (ForInStep PUnit))) _ _ _
            rw [List.forIn_cons]
            refine wpAny_bind (wpAny_bind (d_dset hw hu I3 ((R2.ext' e3).ext.sub) dh (Rep.mono e3.ff _ _ rk) hko rv ru rz (by decide) fun s' ep' kvs' vvs' I4 dh4 => wpAny_pure ?_))
            show wpAny _ _ (forIn ([] : List (Value × Value)) PUnit.unit fun (x : Value × Value) (_ : PUnit) => (do dictSet D x.1 x.2; pure (ForInStep.yield PUnit.unit) : Sem (ForInStep PUnit))) _ _ _
            rw [List.forIn_nil]
            refine wpAny_pure ⟨.ref D, _, I4, rfl, ?_⟩
            have ew := (e1.trans e23).write hq hF3 (o := dictHO D ep' (dEs g.wd (dPut [] [] kd vd).1 kvs' vvs'))
            exact p (.ref D) F3 _ ew ⟨D, rfl, hq, hF3, ep', kvs', vvs', upd_same, dh4.rk, dh4.rv, dh4.ok⟩
          · exact p.elim
end
end Fx

namespace Fx
open PySem PySem.Spec PyProof.Rows L2
open Sem (wp)
open AutoSeq1 (wpAny_loadPart')
/-! ### enumerate(tuple) -/
theorem meets_enumerate_newT (l : Addr) (items : Array Value) (n : Nat) (dct : Option Addr) (sl : Array (Option Value)) :
    Meets (Builtin.«enumerate.__new__» ⟨[.type "enumerate", .ref l], []⟩) (fun _ R s => s.heap.get? l = some { cls := .type "tuple", dict := dct, data := .seq items n, slots := sl } ∧
      R (.ok (.ret (.ref (s.heap.push { cls := .type "tuple_iterator", data := .fields #[.ref l, .int 0 0] }).objs.size)))
        { s with heap := (s.heap.push { cls := .type "tuple_iterator", data := .fields #[.ref l, .int 0 0] }).push { cls := .type "enumerate", data := .fields #[.none, .bool false, .ref s.heap.objs.size, rawInt 0, .none, .none] } }) :=
  .of_wp fun prog w A R s h => by
    obtain ⟨hp, g, d, tk, os⟩ := s; obtain ⟨hl, h⟩ := h
    have hsub := sub_enumerate
    have hL : Heap.IsTuple (Shared.heap ⟨hp, g, d, tk, os⟩) l items := ⟨_, hl, rfl, n, rfl⟩
    wp_walk using wpAny_loadPart' hl
    refine wpAny_stack_any fun st => wpAny_pure ?_
    split
    · rename_i c _ _ _ _ _
      cases (c == Value.type "enumerate")
      · wp_walk using wpAny_loadPart' hl, wpAny_pyIter_tuple hL
        exact ⟨_, rfl, h⟩
      · wp_walk using wpAny_loadPart' hl, wpAny_pyIter_tuple hL
        exact ⟨_, rfl, h⟩
    · wp_walk using wpAny_loadPart' hl, wpAny_pyIter_tuple hL
      exact ⟨_, rfl, h⟩
section
variable {prog : Program} {w : World} {A : Around} {E : Value → Shared → Prop} {s : Shared}
theorem call_enumerate_tuple {l : Addr} {items : Array Value} {Q : Value → Shared → Prop} (hL : s.heap.IsTuple l items)
    (h : ∀ h', IsEnum h' (s.heap.objs.size + 1) s.heap.objs.size 0 .none → h'.IsTupleIter s.heap.objs.size l 0 → h'.objs.size = s.heap.objs.size + 2 →
      (∀ b o, s.heap.get? b = some o → h'.get? b = some o) → Q (.ref (s.heap.objs.size + 1)) { s with heap := h' }) :
    wpAny (model prog w) A (call (.type "enumerate") [.ref l]) Q E s := by
  obtain ⟨⟨c, dct, dt, sl⟩, hl, hc, n, hd⟩ := hL
  replace hc : c = .type "tuple" := hc
  replace hd : dt = .seq items n := hd
  subst hc hd
  refine callType_new F.called_enumerate (by decide) (F.typeCall_enumerate_1 _) (F.newCall_enumerate_1 _) (fun obj => F.args_object_init_2 obj _) F.entry_enumerate_new
    (meets_enumerate_newT l items n dct sl) ⟨hl, ?_⟩
  have hz : (s.heap.push { cls := .type "tuple_iterator", data := .fields #[.ref l, .int 0 0] }).objs.size = s.heap.objs.size + 1 := Heap.size_push ..
  show _ ∧ _
  rw [hz]
  have he : IsEnum ((s.heap.push { cls := .type "tuple_iterator", data := .fields #[.ref l, .int 0 0] }).push
      { cls := .type "enumerate", data := .fields #[.none, .bool false, .ref s.heap.objs.size, rawInt 0, .none, .none] }) (s.heap.objs.size + 1) s.heap.objs.size 0 .none := by
    have := Heap.get?_push_size (s.heap.push { cls := .type "tuple_iterator", data := .fields #[.ref l, .int 0 0] })
      (o := { cls := .type "enumerate", data := .fields #[.none, .bool false, .ref s.heap.objs.size, rawInt 0, .none, .none] }) rfl
    rw [hz] at this; exact this
  refine ⟨⟨_, he, rfl⟩, h _ he ⟨_, Heap.get?_push_of_some _ (Heap.get?_push_size _ rfl), rfl, rfl⟩ (by rw [Heap.size_push, hz]) fun b o x => Heap.get?_push_of_some _ (Heap.get?_push_of_some _ x)⟩
end
/-- the tuple at a, each item in a new pair -/
def IteT (K : PySem.W.Frag) (a : Addr) : It :=
  ⟨fun i H => ∃ (xs : List V) (x : V), SqT K H a xs ∧ xs[i]? = some x, fun i H v H' => ∃ T x, v = .ref T ∧ H T = none ∧ H' = upd H T (.tup [.int (i : Nat), x]) ∧ ∀ xs, SqT K H a xs → xs[i]? = some x, fun i H => ∃ xs : List V, SqT K H a xs ∧ xs.length = i⟩
theorem turn_enumT {P : Program} {w : World} {K : PySem.W.Frag} {elts : List Expr} {kk : Nat} {tpos : Pos} (a e it : Addr) :
    Turn P w K (.Tuple elts kk tpos) (IteT K a) [e, it] e (fun i h => (∃ old, IsEnum h e it ((i : Nat) : Int) old) ∧ h.IsTupleIter it a i ∧ e ≠ it) where
  mem := by simp
  obj := fun i h st b hb => by
    obtain ⟨⟨old, he⟩, ⟨o, ho, hc, hd⟩, _⟩ := st
    have e' : b = e ∨ b = it := by simpa using hb
    rcases e' with z | z
    · rw [z]; exact ⟨_, he, fun v q => nomatch q⟩
    · rw [z]; exact ⟨o, ho, fun v q => by rw [hd] at q; cases q⟩
  keep := fun i h h' st k => let ⟨⟨old, he⟩, hi, hne⟩ := st; ⟨⟨old, k e (by simp) _ he⟩, hi.at fun o q => k it (by simp) o q, hne⟩
  item := by
    intro X hP hw hK hc i pins s σ H E I hf st hg
    subst hP hw hK
    obtain ⟨⟨old, he⟩, hit, hne⟩ := st
    obtain ⟨xs, x, hq, hx⟩ := hg
    obtain ⟨its, rv, p, hz⟩ := I.tuple hq
    obtain ⟨u, hu, ru⟩ := rv.get hx
    have hel : e < s.heap.objs.size := Heap.lt_size he
    have hil : it < s.heap.objs.size := by obtain ⟨_, q, _⟩ := hit; exact Heap.lt_size q
    obtain ⟨ot, hot, hct, nt, hdt⟩ := id p
    have eit : a ≠ it := by
      rintro rfl
      obtain ⟨o2, ho2, hc2, hd2⟩ := hit
      rw [hot] at ho2; cases ho2
      rw [hdt] at hd2; cases hd2
    have hea : e ∉ [it, a] := by
      simp only [List.mem_cons, List.not_mem_nil, or_false, not_or]
      refine ⟨hne, ?_⟩
      rintro rfl
      have he' : s.heap.get? e = some _ := he
      rw [hot] at he'
      cases he'
      cases hdt
    have hlt : i < its.toArray.size := by
      obtain ⟨h1, _⟩ := List.getElem?_eq_some_iff.mp hu
      simpa using h1
    refine wpAny_pyNext_enum_itemD (Draws.tuple (A := X.A.in1) (I.ok.hd hc) it a eit its.toArray) he ⟨hit, p⟩ hlt hne hea fun x' h' tk hP ho hst hT hsz hk => ?_
    have ex : x' = u := by
      have h1 : its.toArray[i]? = some x' := hP
      rw [show its.toArray[i]? = some u by simpa using hu] at h1
      exact (Option.some.inj h1).symm
    subst ex
    obtain ⟨hit', _⟩ := hst
    refine ⟨_, rfl, wpAny_letOwnedTupleGo_enum (s := { s with heap := h', toks := tk + 1 }) ho fun h'' he' sb => ?_⟩
    have hT2 : h''.get? s.heap.objs.size = some { cls := .type "tuple", data := .seq #[.int i tk, x'] } := (sb.2 _ (Nat.ne_of_gt hel)).trans hT
    have new : ObjOk X.prog X.w (upd H s.heap.objs.size (.tup [.int (i : Nat), x])) h'' s.heap.objs.size (.tup [.int (i : Nat), x]) :=
      ⟨by show 2 ≤ sizeLine; decide, [.int i tk, x'], .cons ⟨_, rfl⟩ (.cons ru .nil), ⟨_, hT2, rfl, _, rfl⟩⟩
    have I1 : Inv X pins σ (upd H s.heap.objs.size (.tup [.int (i : Nat), x])) { s with heap := h'', toks := tk + 1 } :=
      I.turnedNew (ch := [e, it]) (fun b ob hb q => (sb.2 b (fun z => hb (by simp [z]))).trans (hk b ob (fun z => hb (by simp [z])) (fun z => hb (by simp [z])) q)) hf (Nat.le_refl _) new
    refine ⟨.ref s.heap.objs.size, _, I1, rfl, ⟨_, x, rfl, I.hok.fresh (Nat.le_refl _), rfl, fun ys hy => by rw [I.tuple_inj hy hq]; exact hx⟩, ⟨⟨x', ?_⟩, hit'.at fun o q => (sb.2 it (Ne.symm hne)).trans q, hne⟩, fun b hb => ?_⟩
    · have e1 : ((i + 1 : Nat) : Int) = (i : Int) + 1 := by omega
      rw [e1]; exact he'
    · have hb' : b < s.heap.objs.size := by
        have e' : b = e ∨ b = it := by simpa using hb
        rcases e' with z | z
        · rw [z]; exact hel
        · rw [z]; exact hil
      rw [upd_ne (Nat.ne_of_lt hb')]
      exact (hf b hb).1
  done := by
    intro X hP hw hK hc i pins s σ H E I hf st hg
    subst hP hw hK
    obtain ⟨⟨old, he⟩, hit, hne⟩ := st
    obtain ⟨xs, hq, hx⟩ := hg
    obtain ⟨its, rv, p, hz⟩ := I.tuple hq
    obtain ⟨f0, f1, f2, f3, f4, f5⟩ := hf it (by simp)
    obtain ⟨ot, hot, hct, nt, hdt⟩ := id p
    have eit : a ≠ it := by
      rintro rfl
      obtain ⟨o2, ho2, hc2, hd2⟩ := hit
      rw [hot] at ho2; cases ho2
      rw [hdt] at hd2; cases hd2
    have hl := rv.length
    have hi : i = its.toArray.size := by rw [← hx, hl]; simp
    subst hi
    exact wpAny_pyNext_enum_endD (Draws.tuple (A := X.A.in1) (I.ok.hd hc) it a eit its.toArray) he ⟨hit, p⟩ fun h' eb => ⟨rfl, I.turned (t' := s.toks) (fun b o hb q => eb b o hb q) f0 f1 f3 f4 f5⟩
  self := fun A i s Q E st h => let ⟨⟨_, he⟩, _⟩ := st; wpAny_pyIter_enum he h
def iEnumT (K : PySem.W.Frag) (ta : TA) : TI := fun σ H R => ta σ H fun vs H1 => ∃ a xs, vs = [.ref a] ∧ SqT K H1 a xs ∧ R (IteT K a) H1
theorem pi_enumT {X : Cx} {e : Expr} {ta : TA} {p pos tpos : Pos} {elts : List Expr} {kk : Nat} (hg : Gl X "enumerate") (hm : X.mg "enumerate" = none) (ha : PA X [e] ta) (hs : starEach [e] X.env = [(false, PySem.eval e X.env)] := by rfl) :
    PI X (.Tuple elts kk tpos) (.Call (.Name "enumerate" p) [e] [] pos) (iEnumT X.K ta) := by
  refine ⟨fun pins s σ H R I h => ?_⟩
  refine Call_ (ld_blt I hg hm boot_enumerate (PyProof.Rows.callWith_type1 (thn (ha.run pos pins s σ H _ I h) fun us s1 ⟨vs, H1, I1, r1, q1⟩ => ?_) hs rfl))
  obtain ⟨a, xs, ex, hq, q⟩ := q1
  subst ex
  cases r1 with
  | cons r rr =>
    cases rr
    cases r
    obtain ⟨its, rv, p', hz⟩ := I1.tuple hq
    refine call_enumerate_tuple (show s1.heap.IsTuple a its.toArray from p') fun h' he hit hsz hk => wpAny_pyIter_enum he ?_
    have I2 : Inv X pins σ H1 { s1 with heap := h' } := I1.kept (t' := s1.toks) hk
    refine ⟨s1.heap.objs.size + 1, [s1.heap.objs.size + 1, s1.heap.objs.size], _, _, H1, rfl, I2, turn_enumT a (s1.heap.objs.size + 1) s1.heap.objs.size, ⟨⟨.none, he⟩, hit, Nat.succ_ne_self _⟩, fun b hb => ?_, q⟩
    have e' : b = s1.heap.objs.size + 1 ∨ b = s1.heap.objs.size := by simpa using hb
    have hle : s1.heap.objs.size ≤ b := by
      rcases e' with z | z
      · rw [z]; exact Nat.le_add_right _ _
      · rw [z]; exact Nat.le_refl _
    exact I1.fpOk hle (I1.hok.fresh hle)
end Fx

namespace Fx
open PySem PySem.Spec PyProof.Rows L2
theorem _root_.L2.PI.imp {X : Cx} {tg e : Expr} {t t' : TI} (h : PI X tg e t) (i : ∀ σ H R, t' σ H R → t σ H R) : PI X tg e t' := ⟨fun pins s σ H R I q => h.run pins s σ H R I (i σ H R q)⟩
theorem _root_.L2.PI.or {X : Cx} {tg e : Expr} {t t' : TI} (h : PI X tg e t) (h' : PI X tg e t') : PI X tg e (fun σ H R => t σ H R ∨ t' σ H R) := ⟨fun pins s σ H R I q => by
  rcases q with q | q
  · exact h.run pins s σ H R I q
  · exact h'.run pins s σ H R I q⟩

/-- J gives the items ds one by one, whatever is done meanwhile that keeps F and B -/
def SrcOk (K : PySem.W.Frag) (g : Tab) (F B : Hp) (J : It) (ds : List D) : Prop :=
  ∀ F1 H1 : Hp, (∀ a o, F a = some o → F1 a = some o) → (∀ a o, B a = some o → H1 a = some o) → (∀ a o, F1 a = some o → H1 a = some o) →
    (∀ i, i < ds.length → J.go i H1) ∧ J.stop ds.length H1 ∧ ∀ i d x H2, ds[i]? = some d → J.yld i H1 x H2 → ∃ F2, Ext F1 H1 F2 H2 ∧ Rep K g F2 d x
def baseOf (lend : Bool) (H0 H : Hp) : Hp := if lend then H else H0
def PostI (K : PySem.W.Frag) (g : Tab) (H0 : Hp) (W : WX) (lend : Bool) (σ : L2.St) (R : It → Hp → Prop) (F H : Hp) (r : Fx.R (List D)) : Prop := match r with
  | .ok ds => ∀ F' H' J, Ext F H F' H' → SrcOk K g F' (baseOf lend H0 H') J ds → R J H'
  | .ex C fs => XP K g W σ F H C fs
  | .no => False
theorem postI_ok {K : PySem.W.Frag} {g : Tab} {H0 : Hp} {W : WX} {lend : Bool} {σ : L2.St} (R : It → Hp → Prop) : PostOk K g W σ (PostI K g H0 W lend σ R) := by
  refine ⟨fun _ _ h => h, fun _ _ _ _ h => h, fun F H F1 H1 r e h => ?_⟩
  cases r with
  | ok mv => exact fun F' H' J e' x => h F' H' J (e.trans e') x
  | ex C fs => exact XP.shift h e
  | no => exact h
def TIo (K : PySem.W.Frag) (g : Tab) (xo : XO) (F0 H0 : Hp) (W : WX) (lend : Bool) (f : Env → Fx.R (List D)) : TI := fun σ H R => ∃ F env, FRel K g xo F0 H0 F H σ env ∧ PostI K g H0 W lend σ R F H (f env)
/-- the values of a source: an own slot's only where nothing is changed meanwhile -/
def selV (lend : Bool) (vs : List Val) : Fx.R (List D) := if lend then .ok (vs.map Prod.snd) else mapR noLnt vs
section
variable {g : Tab} {xo : XO} {F0 H0 : Hp} {W : WX} {X : Cx} {e a b c tg : Expr} {es : List Expr} {pos p apos : Pos} {fa fb fc f : Env → Fx.R Val} {fs : Env → Fx.R (List Val)} {lend : Bool}
/-- a list, a tuple, to be walked: it stands as long as F and the base stand -/
theorem ar_lst {K : PySem.W.Frag} {F H : Hp} {mv : Val} {v : V} {xs : List D} (e : Ext F0 H0 F H) (h : ARep K g H0 F H mv v) (hd : mv.2 = .lst xs) (hl : lend = true ∨ mv.1 ≠ .lnt) :
    ∃ p vs, v = .ref p ∧ H p = some (.lst vs) ∧ (∀ F1 H1 : Hp, (∀ a o, F a = some o → F1 a = some o) → (∀ a o, baseOf lend H0 H a = some o → H1 a = some o) → (∀ a o, F1 a = some o → H1 a = some o) → SqL K H1 p vs) ∧ RepL K g F xs vs := by
  obtain ⟨m, d⟩ := mv
  obtain rfl : d = .lst xs := hd
  cases m with
  | frz =>
    obtain ⟨p, vs, rfl, q, r⟩ := Rep.lst h
    exact ⟨p, vs, rfl, e.sub _ _ q, fun F1 H1 h1 h2 h3 => SqL.of (h3 _ _ (h1 _ _ q)), r⟩
  | own => exact h.elim
  | bor =>
    obtain ⟨p, rfl, z, vs, q, r⟩ := h
    refine ⟨p, vs, rfl, q, fun F1 H1 h1 h2 h3 => SqL.of (h2 _ _ ?_), r⟩
    unfold baseOf
    cases lend with
    | true => exact q
    | false =>
      show H0 p = _
      cases e1 : H0 p with
      | none => exact absurd e1 z
      | some o => rw [← q]; exact (e.hh _ _ e1).symm
  | lnt =>
    obtain ⟨p, rfl, vs, q, r⟩ := h
    refine ⟨p, vs, rfl, q, fun F1 H1 h1 h2 h3 => SqL.of (h2 _ _ ?_), r⟩
    rcases hl with hl | hl
    · subst hl; exact q
    · exact absurd rfl hl
theorem ar_tup {K : PySem.W.Frag} {F H : Hp} {mv : Val} {v : V} {xs : List D} (e : Ext F0 H0 F H) (h : ARep K g H0 F H mv v) (hd : mv.2 = .tup xs) :
    ∃ p vs, v = .ref p ∧ SqT K H p vs ∧ (∀ F1 H1 : Hp, (∀ a o, F a = some o → F1 a = some o) → (∀ a o, F1 a = some o → H1 a = some o) → SqT K H1 p vs) ∧ RepL K g F xs vs := by
  obtain ⟨m, d⟩ := mv
  obtain rfl : d = .tup xs := hd
  cases m with
  | frz =>
    obtain ⟨p, vs, rfl, q, r⟩ := Rep.tup h
    exact ⟨p, vs, rfl, SqT.mono e.sub q, fun F1 H1 h1 h3 => SqT.mono h3 (SqT.mono h1 q), r⟩
  | own => exact h.elim
  | bor => obtain ⟨p, rfl, z, o⟩ := h; exact o.elim
  | lnt => obtain ⟨p, rfl, o⟩ := h; exact o.elim
theorem src_list {K : PySem.W.Frag} {F B : Hp} {p : Addr} {vs : List V} {ds : List D} (hq : ∀ F1 H1 : Hp, (∀ a o, F a = some o → F1 a = some o) → (∀ a o, B a = some o → H1 a = some o) → (∀ a o, F1 a = some o → H1 a = some o) → SqL K H1 p vs) (r : RepL K g F ds vs) : SrcOk K g F B (Itl K p) ds := by
  intro F1 H1 h1 h2 h3
  have q := hq F1 H1 h1 h2 h3
  have hl := r.length
  refine ⟨fun i hi => walk_list.goes i H1 (by rw [hl]; exact hi) q, by rw [← hl]; exact walk_list.stops H1 q, fun i d x H2 hd y => ?_⟩
  obtain ⟨hi, _⟩ := List.getElem?_eq_some_iff.mp hd
  obtain ⟨rfl, hx⟩ := walk_list.yields i H1 x H2 (by rw [hl]; exact hi) q y
  obtain ⟨w, hw, rw'⟩ := r.get hd
  rw [hx] at hw; cases hw
  exact ⟨F1, Ext.refl h3, Rep.mono h1 _ _ rw'⟩
theorem src_tup {K : PySem.W.Frag} {F B : Hp} {p : Addr} {vs : List V} {ds : List D} (hq : ∀ F1 H1 : Hp, (∀ a o, F a = some o → F1 a = some o) → (∀ a o, F1 a = some o → H1 a = some o) → SqT K H1 p vs) (r : RepL K g F ds vs) : SrcOk K g F B (Itt K p) ds := by
  intro F1 H1 h1 h2 h3
  have q := hq F1 H1 h1 h3
  have hl := r.length
  refine ⟨fun i hi => walk_tup.goes i H1 (by rw [hl]; exact hi) q, by rw [← hl]; exact walk_tup.stops H1 q, fun i d x H2 hd y => ?_⟩
  obtain ⟨hi, _⟩ := List.getElem?_eq_some_iff.mp hd
  obtain ⟨rfl, hx⟩ := walk_tup.yields i H1 x H2 (by rw [hl]; exact hi) q y
  obtain ⟨w, hw, rw'⟩ := r.get hd
  rw [hx] at hw; cases hw
  exact ⟨F1, Ext.refl h3, Rep.mono h1 _ _ rw'⟩
theorem src_range {K : PySem.W.Frag} {F B : Hp} {lo : Int} {n : Nat} : SrcOk K g F B (Itr lo n) (rngL lo n) := by
  intro F1 H1 h1 h2 h3
  have hl : (rngL lo n).length = n := by simp [rngL]
  refine ⟨fun i hi => walk_range.goes i H1 (by rw [← hl]; exact hi) trivial, by rw [hl]; exact walk_range.stops H1 trivial, fun i d x H2 hd y => ?_⟩
  obtain ⟨hi, e⟩ := List.getElem?_eq_some_iff.mp hd
  obtain ⟨rfl, hx⟩ := walk_range.yields i H1 x H2 (by rw [← hl]; exact hi) trivial y
  refine ⟨F1, Ext.refl h3, ?_⟩
  rw [hx, ← e]
  simp only [rngL, List.getElem_map, List.getElem_range]
  exact Rep.mkI _
/-- a dict to be walked -/
theorem ar_dct {K : PySem.W.Frag} {F H : Hp} {mv : Val} {v : V} {ks ds : List D} (e : Ext F0 H0 F H) (h : ARep K g H0 F H mv v) (hd : mv.2 = .dct ks ds) (hl : lend = true ∨ mv.1 ≠ .lnt) :
    ∃ p ep kvs vvs, v = .ref p ∧ H p = some (dictHO p ep (dEs g.wd ks kvs vvs)) ∧ (∀ F1 H1 : Hp, (∀ a o, F a = some o → F1 a = some o) → (∀ a o, baseOf lend H0 H a = some o → H1 a = some o) → (∀ a o, F1 a = some o → H1 a = some o) → H1 p = some (dictHO p ep (dEs g.wd ks kvs vvs))) ∧ RepL K g F ks kvs ∧ RepL K g F ds vvs ∧ DOk ks ds := by
  obtain ⟨m, d⟩ := mv
  obtain rfl : d = .dct ks ds := hd
  cases m with
  | frz =>
    obtain ⟨p, ep, kvs, vvs, rfl, q, r, t, o⟩ := Rep.dct h
    exact ⟨p, ep, kvs, vvs, rfl, e.sub _ _ q, fun F1 H1 h1 h2 h3 => h3 _ _ (h1 _ _ q), r, t, o⟩
  | own => exact h.elim
  | bor =>
    obtain ⟨p, rfl, z, ep, kvs, vvs, q, r, t, o⟩ := h
    refine ⟨p, ep, kvs, vvs, rfl, q, fun F1 H1 h1 h2 h3 => h2 _ _ ?_, r, t, o⟩
    unfold baseOf
    cases lend with
    | true => exact q
    | false =>
      show H0 p = _
      cases e1 : H0 p with
      | none => exact absurd e1 z
      | some o => rw [← q]; exact (e.hh _ _ e1).symm
  | lnt =>
    obtain ⟨p, rfl, ep, kvs, vvs, q, r, t, o⟩ := h
    refine ⟨p, ep, kvs, vvs, rfl, q, fun F1 H1 h1 h2 h3 => h2 _ _ ?_, r, t, o⟩
    rcases hl with hl | hl
    · subst hl; exact q
    · exact absurd rfl hl
theorem dEs_key {w : World} : ∀ {ks : List D} {as bs : List V} {i : Nat} {e : Int × V × V}, (dEs w ks as bs)[i]? = some e → as[i]? = some e.2.1
  | [], _, _, i, e, h => by simp [dEs] at h
  | _ :: _, [], _, i, e, h => by simp [dEs] at h
  | _ :: _, _ :: _, [], i, e, h => by simp [dEs] at h
  | k :: ks, a :: as, b :: bs, i, e, h => by
    cases i with
    | zero => simp only [dEs, List.getElem?_cons_zero, Option.some.injEq] at h; rw [← h]; rfl
    | succ i =>
      rw [List.getElem?_cons_succ]
      exact dEs_key (w := w) (ks := ks) (bs := bs) (by simpa [dEs] using h)
theorem src_dct {K : PySem.W.Frag} {F B : Hp} {p : Addr} {ep : Nat} {ks ds : List D} {kvs vvs : List V} (hq : ∀ F1 H1 : Hp, (∀ a o, F a = some o → F1 a = some o) → (∀ a o, B a = some o → H1 a = some o) → (∀ a o, F1 a = some o → H1 a = some o) → H1 p = some (dictHO p ep (dEs g.wd ks kvs vvs)))
    (r : RepL K g F ks kvs) (t : RepL K g F ds vvs) (o : DOk ks ds) : SrcOk K g F B (ItD p ep (dEs g.wd ks kvs vvs)) ks := by
  intro F1 H1 h1 h2 h3
  have q := hq F1 H1 h1 h2 h3
  have hl : (dEs g.wd ks kvs vvs).length = ks.length := dEs_len r.length (by rw [t.length, o.2.2])
  refine ⟨fun i hi => ⟨q, by rw [hl]; exact hi⟩, ⟨q, Nat.le_of_eq hl⟩, fun i d x H2 hd y => ?_⟩
  obtain ⟨rfl, e, he, rfl⟩ := y
  obtain ⟨w, hw, rw'⟩ := r.get hd
  rw [dEs_key he] at hw; cases hw
  exact ⟨F1, Ext.refl h3, Rep.mono h1 _ _ rw'⟩
/-- a new pair of frozen things -/
theorem rep_pair {K : PySem.W.Frag} {F H : Hp} {T : Addr} {d d' : D} {x y : V} (s : ∀ a o, F a = some o → H a = some o) (hT : H T = none) (h1 : Rep K g F d x) (h2 : Rep K g F d' y) : ∃ F2, Ext F H F2 (upd H T (.tup [x, y])) ∧ Rep K g F2 (.tup [d, d']) (.ref T) := by
  have e := (Ext.refl s).laidF (o := .tup [x, y]) hT
  exact ⟨_, e, Rep.mkT (SqT.of upd_same) (.cons (Rep.mono e.ff _ _ h1) (.cons (Rep.mono e.ff _ _ h2) .nil))⟩
theorem src_enum {K : PySem.W.Frag} {F B : Hp} {p : Addr} {vs : List V} {ds : List D} (hq : ∀ F1 H1 : Hp, (∀ a o, F a = some o → F1 a = some o) → (∀ a o, B a = some o → H1 a = some o) → (∀ a o, F1 a = some o → H1 a = some o) → SqL K H1 p vs) (r : RepL K g F ds vs) : SrcOk K g F B (Ite K p) (enumL ds) := by
  intro F1 H1 h1 h2 h3
  have q := hq F1 H1 h1 h2 h3
  have hl := r.length
  have hn : (enumL ds).length = vs.length := by simp [enumL, hl]
  refine ⟨fun i hi => walk_enum.goes i H1 (by rw [← hn]; exact hi) q, by rw [hn]; exact walk_enum.stops H1 q, fun i d x H2 hd y => ?_⟩
  obtain ⟨hi, _⟩ := List.getElem?_eq_some_iff.mp hd
  obtain ⟨T, x1, y1, rfl, hT, rfl, hx, hy⟩ := walk_enum.yields i H1 x H2 (by rw [← hn]; exact hi) q y
  simp only [enumL, List.getElem?_mapIdx] at hd
  cases e : ds[i]? with
  | none => rw [e] at hd; cases hd
  | some d' =>
    rw [e] at hd
    cases hd
    cases hx
    obtain ⟨w, hw, rw'⟩ := r.get e
    have hy : vs[i]? = some y1 := hy
    rw [hw] at hy; cases hy
    exact rep_pair h3 hT (Rep.mkI _) (Rep.mono h1 _ _ rw')
theorem src_enumT {K : PySem.W.Frag} {F B : Hp} {p : Addr} {vs : List V} {ds : List D} (hq : ∀ F1 H1 : Hp, (∀ a o, F a = some o → F1 a = some o) → (∀ a o, F1 a = some o → H1 a = some o) → SqT K H1 p vs) (r : RepL K g F ds vs) : SrcOk K g F B (IteT K p) (enumL ds) := by
  intro F1 H1 h1 h2 h3
  have q := hq F1 H1 h1 h3
  have hl := r.length
  have hn : (enumL ds).length = vs.length := by simp [enumL, hl]
  refine ⟨fun i hi => ⟨vs, vs[i]'(by rw [← hn]; exact hi), q, by simp⟩, ⟨vs, q, hn.symm⟩, fun i d x H2 hd y => ?_⟩
  obtain ⟨T, x1, rfl, hT, rfl, hy⟩ := y
  have hy := hy vs q
  simp only [enumL, List.getElem?_mapIdx] at hd
  cases e : ds[i]? with
  | none => rw [e] at hd; cases hd
  | some d' =>
    rw [e] at hd
    cases hd
    obtain ⟨w, hw, rw'⟩ := r.get e
    rw [hw] at hy; cases hy
    exact rep_pair h3 hT (Rep.mkI _) (Rep.mono h1 _ _ rw')
theorem sel_one {mv : Val} {ds : List D} (h : selV lend [mv] = .ok ds) : ds = [mv.2] ∧ (lend = true ∨ mv.1 ≠ .lnt) := by
  unfold selV at h
  cases lend with
  | true => cases h; exact ⟨rfl, .inl rfl⟩
  | false =>
    obtain ⟨m, d⟩ := mv
    cases m with
    | lnt => cases h
    | _ => cases h; exact ⟨rfl, .inr (by simp)⟩
theorem selV_ex {vs : List Val} {C : Nat} {f' : List D} : selV lend vs ≠ .ex C f' := by
  unfold selV
  cases lend with
  | true => intro h; cases h
  | false =>
    show mapR noLnt vs ≠ _
    induction vs with
    | nil => intro h; cases h
    | cons v vs ih =>
      intro h
      simp only [mapR] at h
      obtain ⟨m, d⟩ := v
      cases m with
      | lnt => cases h
      | _ =>
        cases q : mapR noLnt vs with
        | ok ds => rw [q] at h; cases h
        | ex C' f'' => rw [q] at h; cases h; exact ih q
        | no => rw [q] at h; cases h
/-- what follows when the values are taken -/
theorem post_sel {β : Type} {Post : Hp → Hp → Fx.R β → Prop} {σ : L2.St} {k : List D → Fx.R β} {F H : Hp} {vs : List Val} (P : PostOk X.K g W σ Post) (p : Post F H ((selV lend vs).bind k)) : ∃ ds, selV lend vs = .ok ds ∧ Post F H (k ds) := by
  cases q : selV lend vs with
  | ok ds => rw [q, Fx.R.bind_ok] at p; exact ⟨ds, rfl, p⟩
  | ex C f' => exact absurd q selV_ex
  | no => rw [q] at p; exact (P.no _ _ p).elim
theorem si_seq (ha : SE g xo F0 H0 W X e fa) : PI X tg e (TIo X.K g xo F0 H0 W lend (fun env => ((fa env).bind fun v => Fx.R.ok [pas v]).bind fun vs => (selV lend vs).bind fun ds => srcItems .seq ds)) := by
  refine (((pi_list ha).or (pi_tup ha)).or (pi_dct ha)).imp fun σ H R ⟨F, env, R0, p⟩ => ?_
  simp only [Fx.R.bind_assoc, Fx.R.bind_ok] at p
  cases q : fa env with
  | ex C f' => rw [q] at p; exact .inl (.inl ⟨F, env, R0, by rw [q]; exact p⟩)
  | no => rw [q] at p; exact p.elim
  | ok mv =>
    have p' := p
    rw [q, Fx.R.bind_ok] at p'
    obtain ⟨ds, q1, p'⟩ := post_sel (postI_ok R) p'
    obtain ⟨rfl, hl⟩ := sel_one q1
    simp only [srcItems, pas_snd] at p'
    cases q2 : mv.2 with
    | lst xs =>
      left; left
      refine bindQ (postI_ok R) R0 p fun mv' v F1 H1 eq e1 a1 R1 p1 => ?_
      rw [q] at eq; cases eq
      obtain ⟨ds, q3, p2⟩ := post_sel (postI_ok R) p1
      obtain ⟨rfl, hl'⟩ := sel_one q3
      obtain ⟨t, vs, rfl, ht, hs, r⟩ := ar_lst (lend := lend) R1.ext a1 (by rw [pas_snd]; exact q2) hl'
      simp only [srcItems, pas_snd, q2, seqItems] at p2
      exact ⟨t, rfl, ⟨vs, SqL.of ht⟩, p2 F1 H1 _ (Ext.refl R1.ext.sub) (src_list hs r)⟩
    | tup xs =>
      left; right
      refine bindQ (postI_ok R) R0 p fun mv' v F1 H1 eq e1 a1 R1 p1 => ?_
      rw [q] at eq; cases eq
      obtain ⟨ds, q3, p2⟩ := post_sel (postI_ok R) p1
      obtain ⟨rfl, hl'⟩ := sel_one q3
      obtain ⟨t, vs, rfl, ht, hs, r⟩ := ar_tup R1.ext a1 (by rw [pas_snd]; exact q2)
      simp only [srcItems, pas_snd, q2, seqItems] at p2
      exact ⟨t, rfl, ⟨vs, ht⟩, p2 F1 H1 _ (Ext.refl R1.ext.sub) (src_tup hs r)⟩
    | dct ks ds =>
      right
      refine bindQ (postI_ok R) R0 p fun mv' v F1 H1 eq e1 a1 R1 p1 => ?_
      rw [q] at eq; cases eq
      obtain ⟨ds', q3, p2⟩ := post_sel (postI_ok R) p1
      obtain ⟨rfl, hl'⟩ := sel_one q3
      obtain ⟨t, ep, kvs, vvs, rfl, ht, hs, r, t2, o⟩ := ar_dct (lend := lend) R1.ext a1 (by rw [pas_snd]; exact q2) hl'
      simp only [srcItems, pas_snd, q2] at p2
      exact ⟨t, ep, _, rfl, ht, p2 F1 H1 _ (Ext.refl R1.ext.sub) (src_dct hs r t2 o)⟩
    | _ => rw [q2] at p'; exact p'.elim

/-- one argument's values -/
theorem sel_two {mv mw : Val} {ds : List D} (h : selV lend [mv, mw] = .ok ds) : ds = [mv.2, mw.2] ∧ (lend = true ∨ mv.1 ≠ .lnt) ∧ (lend = true ∨ mw.1 ≠ .lnt) := by
  unfold selV at h
  cases lend with
  | true => cases h; exact ⟨rfl, .inl rfl, .inl rfl⟩
  | false =>
    obtain ⟨m, d⟩ := mv
    obtain ⟨m2, d2⟩ := mw
    cases m <;> cases m2 <;> first | (cases h; done) | (cases h; exact ⟨rfl, .inr (by simp), .inr (by simp)⟩)
theorem noLnt_map : ∀ {vs : List Val} {ds : List D}, mapR noLnt vs = .ok ds → ds = vs.map Prod.snd
  | [], ds, h => by cases h; rfl
  | (m, d) :: vs, ds, h => by
    simp only [mapR] at h
    cases q : mapR noLnt vs with
    | ok ds' =>
      have e := noLnt_map q
      cases m <;> first | (simp [noLnt] at h; done) | (simp only [noLnt, q, Fx.R.bind_ok] at h; cases h; simp [e])
    | ex C' f'' => cases m <;> (simp only [noLnt, q, Fx.R.bind_ok] at h; cases h)
    | no => cases m <;> (simp only [noLnt, q, Fx.R.bind_ok] at h; cases h)
theorem sel_len {vs : List Val} {ds : List D} (h : selV lend vs = .ok ds) : ds.length = vs.length ∧ ds = vs.map Prod.snd := by
  unfold selV at h
  cases lend with
  | true => cases h; exact ⟨by simp, rfl⟩
  | false =>
    have e := noLnt_map (show mapR noLnt vs = .ok ds from h)
    exact ⟨by rw [e]; simp, e⟩
theorem lim62_iff {i : Int} (h : lim62 i = true) : -(2 ^ 62) ≤ i ∧ i < 2 ^ 62 := by simpa [lim62] using h
theorem si_range1 (hg : Gl X "range") (hm : X.mg "range" = none) (hs : starEach [e] X.env = [(false, PySem.eval e X.env)]) (ha : SA g xo F0 H0 W X [e] fs) :
    PI X tg (.Call (.Name "range" p) [e] [] pos) (TIo X.K g xo F0 H0 W lend (fun env => (fs env).bind fun vs => (selV lend vs).bind fun ds => match ds with | [d] => srcItems .range [d] | _ => .no)) := by
  refine (pi_range1 hg hm ha hs).imp fun σ H R ⟨F, env, R0, p⟩ => ?_
  refine bindA (postI_ok R) R0 p fun mvs vs F1 H1 e1 a1 R1 p1 => ?_
  obtain ⟨ds, q1, p2⟩ := post_sel (postI_ok R) p1
  obtain ⟨_, rfl⟩ := sel_len q1
  have ar := a1.rds
  split at p2
  · rename_i d hd
    rw [hd] at ar
    obtain ⟨v, rfl, r1⟩ := ar.one
    cases d with
    | int j =>
      simp only [srcItems] at p2
      split at p2
      · rename_i hj
        obtain ⟨h1, h2⟩ := lim62_iff hj
        exact ⟨j, by rw [r1.int], h1, h2, p2 F1 H1 _ (Ext.refl R1.ext.sub) src_range⟩
      · exact p2.elim
    | _ => exact p2.elim
  · exact p2.elim
theorem src_rrange {K : PySem.W.Frag} {F B : Hp} {n : Nat} : SrcOk K g F B (Itc (0 + (n : Int) - 1) (-1) n) (rngL 0 n).reverse := by
  intro F1 H1 h1 h2 h3
  have hl : (rngL 0 n).reverse.length = n := by simp [rngL]
  refine ⟨fun i hi => walk_rangeC.goes i H1 (by rw [← hl]; exact hi) trivial, by rw [hl]; exact walk_rangeC.stops H1 trivial, fun i d x H2 hd y => ?_⟩
  obtain ⟨hi, e⟩ := List.getElem?_eq_some_iff.mp hd
  have hi2 : i < n := by rw [hl] at hi; exact hi
  obtain ⟨rfl, hx⟩ := walk_rangeC.yields i H1 x H2 hi2 trivial y
  refine ⟨F1, Ext.refl h3, ?_⟩
  rw [hx, ← e, List.getElem_reverse]
  simp only [rngL, List.getElem_map, List.getElem_range, List.length_map, List.length_range]
  have : (0 : Int) + ((n - 1 - i : Nat) : Int) = 0 + (n : Int) - 1 + ((i : Nat) : Int) * (-1) := by omega
  rw [this]
  exact Rep.mkI _
theorem si_rrng {p2 pos2 : Pos} (hg : Gl X "range") (hm : X.mg "range" = none) (hgr : Gl X "reversed") (hmr : X.mg "reversed" = none) (hs : starEach [e] X.env = [(false, PySem.eval e X.env)]) (ha : SE g xo F0 H0 W X e fa) :
    PI X tg (.Call (.Name "reversed" p2) [.Call (.Name "range" p) [e] [] pos] [] pos2) (TIo X.K g xo F0 H0 W lend (fun env => ((fa env).bind fun v => Fx.R.ok [pas v]).bind fun vs => (selV lend vs).bind fun ds => srcItems .rrng ds)) := by
  refine (pi_revR hgr hmr (prg_1 hg hm ha hs)).imp fun σ H R ⟨F, env, R0, p⟩ => ?_
  simp only [Fx.R.bind_assoc, Fx.R.bind_ok] at p
  refine bindE (postI_ok R) R0 p fun mv v F1 H1 e1 a1 R1 p1 => ?_
  obtain ⟨ds, q3, p2⟩ := post_sel (postI_ok R) p1
  obtain ⟨rfl, hl'⟩ := sel_one q3
  simp only [pas_snd] at p2
  have z := rd_of a1
  cases q : mv.2 with
  | int j =>
    rw [q] at z p2
    simp only [srcItems] at p2
    split at p2
    · rename_i hj
      obtain ⟨h1, h2⟩ := lim62_iff hj
      refine ⟨j, z.int, by omega, by omega, h1, h2, ?_⟩
      have e0 : (j - 0).toNat = j.toNat := by rw [Int.sub_zero]
      rw [e0]
      exact p2 F1 H1 _ (Ext.refl R1.ext.sub) src_rrange
    · exact p2.elim
  | _ => rw [q] at p2; exact p2.elim
theorem si_range2 (hg : Gl X "range") (hm : X.mg "range" = none) (hs : starEach [a, b] X.env = [(false, PySem.eval a X.env), (false, PySem.eval b X.env)]) (hs2 : starEach [b] X.env = [(false, PySem.eval b X.env)]) (ha : SA g xo F0 H0 W X [a, b] fs) :
    PI X tg (.Call (.Name "range" p) [a, b] [] pos) (TIo X.K g xo F0 H0 W lend (fun env => (fs env).bind fun vs => (selV lend vs).bind fun ds => match ds with | [d, d'] => srcItems .range [d, d'] | _ => .no)) := by
  refine (pi_range2 hg hm ha hs hs2).imp fun σ H R ⟨F, env, R0, p⟩ => ?_
  refine bindA (postI_ok R) R0 p fun mvs vs F1 H1 e1 a1 R1 p1 => ?_
  obtain ⟨ds, q1, p2⟩ := post_sel (postI_ok R) p1
  obtain ⟨_, rfl⟩ := sel_len q1
  have ar := a1.rds
  split at p2
  · rename_i d d' hd
    rw [hd] at ar
    obtain ⟨v, w, rfl, r1, r2⟩ := ar.two
    cases d with
    | int i =>
      cases d' with
      | int j =>
        simp only [srcItems] at p2
        split at p2
        · rename_i hj
          rw [Bool.and_eq_true] at hj
          obtain ⟨h1, h2⟩ := lim62_iff hj.1
          obtain ⟨h3, h4⟩ := lim62_iff hj.2
          exact ⟨i, j, by rw [r1.int, r2.int], ⟨h1, h2, h3, h4⟩, p2 F1 H1 _ (Ext.refl R1.ext.sub) src_range⟩
        · exact p2.elim
      | _ => exact p2.elim
    | _ => exact p2.elim
  · exact p2.elim
theorem si_enum {elts : List Expr} {kk : Nat} {tpos : Pos} (hg : Gl X "enumerate") (hm : X.mg "enumerate" = none) (hs : starEach [e] X.env = [(false, PySem.eval e X.env)]) (ha : SE g xo F0 H0 W X e fa) :
    PI X (.Tuple elts kk tpos) (.Call (.Name "enumerate" p) [e] [] pos) (TIo X.K g xo F0 H0 W lend (fun env => ((fa env).bind fun v => Fx.R.ok [pas v]).bind fun vs => (selV lend vs).bind fun ds => srcItems .enum ds)) := by
  have hA : PA X [e] (tCons (TEo X.K g xo F0 H0 W fa) tNil) := pa_cons ha pa_nil hs
  refine ((pi_enum hg hm hA hs).or (pi_enumT hg hm hA hs)).imp fun σ H R ⟨F, env, R0, p⟩ => ?_
  simp only [Fx.R.bind_assoc, Fx.R.bind_ok] at p
  cases q : fa env with
  | ex C f' => rw [q] at p; exact .inl ⟨F, env, R0, by rw [q]; exact p⟩
  | no => rw [q] at p; exact p.elim
  | ok mv =>
    have p' := p
    rw [q, Fx.R.bind_ok] at p'
    obtain ⟨ds, q1, p'⟩ := post_sel (postI_ok R) p'
    obtain ⟨rfl, hl⟩ := sel_one q1
    simp only [pas_snd] at p'
    cases q2 : mv.2 with
    | lst xs =>
      left
      refine bindQ (postI_ok R) R0 p fun mv' v F1 H1 eq e1 a1 R1 p1 => ?_
      rw [q] at eq; cases eq
      obtain ⟨ds, q3, p2⟩ := post_sel (postI_ok R) p1
      obtain ⟨rfl, hl'⟩ := sel_one q3
      obtain ⟨t, vs, rfl, ht, hs, r⟩ := ar_lst (lend := lend) R1.ext a1 (by rw [pas_snd]; exact q2) hl'
      simp only [pas_snd, q2, srcItems] at p2
      exact ⟨t, vs, rfl, SqL.of ht, p2 F1 H1 _ (Ext.refl R1.ext.sub) (src_enum hs r)⟩
    | tup xs =>
      right
      refine bindQ (postI_ok R) R0 p fun mv' v F1 H1 eq e1 a1 R1 p1 => ?_
      rw [q] at eq; cases eq
      obtain ⟨ds, q3, p2⟩ := post_sel (postI_ok R) p1
      obtain ⟨rfl, hl'⟩ := sel_one q3
      obtain ⟨t, vs, rfl, ht, hs, r⟩ := ar_tup R1.ext a1 (by rw [pas_snd]; exact q2)
      simp only [pas_snd, q2, srcItems] at p2
      exact ⟨t, vs, rfl, ht, p2 F1 H1 _ (Ext.refl R1.ext.sub) (src_enumT hs r)⟩
    | _ => rw [q2] at p'; simp only [srcItems] at p'; exact p'.elim
/-- zip of two lists, of two tuples -/
theorem zipL_get {xs ys : List D} {i : Nat} {d : D} (h : (zipL xs ys)[i]? = some d) : ∃ x y, xs[i]? = some x ∧ ys[i]? = some y ∧ d = .tup [x, y] := by
  unfold zipL at h
  rw [List.getElem?_zipWith] at h
  cases e1 : xs[i]? with
  | none => rw [e1] at h; cases h
  | some x =>
    cases e2 : ys[i]? with
    | none => rw [e1, e2] at h; cases h
    | some y => rw [e1, e2] at h; cases h; exact ⟨x, y, rfl, rfl, rfl⟩
theorem zipL_len (xs ys : List D) : (zipL xs ys).length = min xs.length ys.length := by simp [zipL]
theorem src_zipT {K : PySem.W.Frag} {F B : Hp} {p q : Addr} {vs ws : List V} {ds es : List D} (hq : ∀ F1 H1 : Hp, (∀ a o, F a = some o → F1 a = some o) → (∀ a o, F1 a = some o → H1 a = some o) → SqT K H1 p vs) (hq2 : ∀ F1 H1 : Hp, (∀ a o, F a = some o → F1 a = some o) → (∀ a o, F1 a = some o → H1 a = some o) → SqT K H1 q ws) (r : RepL K g F ds vs) (r2 : RepL K g F es ws) : SrcOk K g F B (RZ.ItzT K p q) (zipL ds es) := by
  intro F1 H1 h1 h2 h3
  have q1 := hq F1 H1 h1 h3
  have q2 := hq2 F1 H1 h1 h3
  have l1 := r.length
  have l2 := r2.length
  have ln := zipL_len ds es
  refine ⟨fun i hi => ?_, ⟨vs, ws, q1, q2, by omega⟩, fun i d x H2 hd y => ?_⟩
  · exact ⟨vs, ws, vs[i]'(by omega), ws[i]'(by omega), q1, q2, by simp, by simp⟩
  · obtain ⟨T, x1, y1, rfl, hT, rfl, hx, hy⟩ := y
    obtain ⟨dx, dy, e1, e2, rfl⟩ := zipL_get hd
    obtain ⟨v, hv, rv⟩ := r.get e1
    obtain ⟨w, hw, rw'⟩ := r2.get e2
    have g1 := hx vs q1
    have g2 := hy ws q2
    rw [hv] at g1; cases g1
    rw [hw] at g2; cases g2
    exact rep_pair h3 hT (Rep.mono h1 _ _ rv) (Rep.mono h1 _ _ rw')
theorem src_zipL {K : PySem.W.Frag} {F B : Hp} {p q : Addr} {vs ws : List V} {ds es : List D} (hq : ∀ F1 H1 : Hp, (∀ a o, F a = some o → F1 a = some o) → (∀ a o, B a = some o → H1 a = some o) → (∀ a o, F1 a = some o → H1 a = some o) → SqL K H1 p vs) (hq2 : ∀ F1 H1 : Hp, (∀ a o, F a = some o → F1 a = some o) → (∀ a o, B a = some o → H1 a = some o) → (∀ a o, F1 a = some o → H1 a = some o) → SqL K H1 q ws) (r : RepL K g F ds vs) (r2 : RepL K g F es ws) : SrcOk K g F B (Itz K p q) (zipL ds es) := by
  intro F1 H1 h1 h2 h3
  have q1 := hq F1 H1 h1 h2 h3
  have q2 := hq2 F1 H1 h1 h2 h3
  have l1 := r.length
  have l2 := r2.length
  have ln := zipL_len ds es
  refine ⟨fun i hi => ?_, ⟨vs, ws, q1, q2, by omega⟩, fun i d x H2 hd y => ?_⟩
  · exact ⟨vs, ws, vs[i]'(by omega), ws[i]'(by omega), q1, q2, by simp, by simp⟩
  · obtain ⟨T, x1, y1, rfl, hT, rfl, hx, hy⟩ := y
    obtain ⟨dx, dy, e1, e2, rfl⟩ := zipL_get hd
    obtain ⟨v, hv, rv⟩ := r.get e1
    obtain ⟨w, hw, rw'⟩ := r2.get e2
    have g1 := hx vs q1
    have g2 := hy ws q2
    rw [hv] at g1; cases g1
    rw [hw] at g2; cases g2
    exact rep_pair h3 hT (Rep.mono h1 _ _ rv) (Rep.mono h1 _ _ rw')
theorem AReps.two {K : PySem.W.Frag} {F H : Hp} {mv mw : Val} {vs : List V} (h : AReps K g H0 F H [mv, mw] vs) : ∃ v w, vs = [v, w] ∧ ARep K g H0 F H mv v ∧ ARep K g H0 F H mw w := by
  cases h with
  | cons h t =>
    cases t with
    | cons h2 t2 => cases t2; exact ⟨_, _, rfl, h, h2⟩
theorem si_zip {elts : List Expr} {kk : Nat} {tpos : Pos} (hg : Gl X "zip") (hm : X.mg "zip" = none) (hs : starEach [a, b] X.env = (false, PySem.eval a X.env) :: starEach [b] X.env) (hpl : (backTo pos (starEach [b] X.env)).any (·.1) = false) (ha : SA g xo F0 H0 W X [a, b] fs) (ln : ∀ env vs, fs env = .ok vs → vs.length = 2) :
    PI X (.Tuple elts kk tpos) (.Call (.Name "zip" p) [a, b] [] pos) (TIo X.K g xo F0 H0 W lend (fun env => (fs env).bind fun vs => (selV lend vs).bind fun ds => srcItems .zip ds)) := by
  refine (RZ.pi_zipA hg hm ha hs hpl).imp fun σ H R ⟨F, env, R0, p⟩ => ?_
  have p : PostI X.K g H0 W lend σ R F H ((fs env).bind fun vs => (selV lend vs).bind fun ds => srcItems .zip ds) := p
  refine ⟨F, env, R0, ?_⟩
  cases q : fs env with
  | ex C f' => rw [q] at p; exact p
  | no => rw [q] at p; exact p.elim
  | ok mvs =>
    rw [q, Fx.R.bind_ok] at p
    intro vs F1 H1 e1 ar
    obtain ⟨ds, q1, p1⟩ := post_sel (postI_ok R) p
    have p2 := (postI_ok R).shift _ _ _ _ _ e1 p1
    have R1 := R0.ext' e1
    have l2 := ln env mvs q
    match mvs, l2, ar, q1 with
    | [mv, mw], _, ar, q1 =>
      obtain ⟨rfl, hl1, hl2⟩ := sel_two q1
      obtain ⟨v, w, rfl, a1, a2⟩ := ar.two
      cases d1 : mv.2 with
      | lst xs =>
        cases d2 : mw.2 with
        | lst ys =>
          simp only [d1, d2, srcItems] at p2
          obtain ⟨t, us, rfl, ht, hs1, r1⟩ := ar_lst (lend := lend) R1.ext a1 d1 hl1
          obtain ⟨t2, us2, rfl, ht2, hs2, r2⟩ := ar_lst (lend := lend) R1.ext a2 d2 hl2
          exact ⟨t, t2, us, us2, rfl, .inl ⟨SqL.of ht, SqL.of ht2, p2 F1 H1 _ (Ext.refl R1.ext.sub) (src_zipL hs1 hs2 r1 r2)⟩⟩
        | _ => rw [d1, d2] at p2; exact p2.elim
      | tup xs =>
        cases d2 : mw.2 with
        | tup ys =>
          simp only [d1, d2, srcItems] at p2
          obtain ⟨t, us, rfl, ht, hs1, r1⟩ := ar_tup R1.ext a1 d1
          obtain ⟨t2, us2, rfl, ht2, hs2, r2⟩ := ar_tup R1.ext a2 d2
          exact ⟨t, t2, us, us2, rfl, .inr ⟨ht, ht2, p2 F1 H1 _ (Ext.refl R1.ext.sub) (src_zipT hs1 hs2 r1 r2)⟩⟩
        | _ => rw [d1, d2] at p2; exact p2.elim
      | _ => rw [d1] at p2; exact p2.elim
end
end Fx

namespace Fx
open PySem PySem.Spec PyProof.Rows L2
section
variable {K : PySem.W.Frag} {g : Tab} {xo : XO} {F0 H0 F H : Hp} {σ : L2.St} {env : Env}
theorem SlotR.other {i j : Nat} {mv : Val} {o : Option V} (h : SlotR K g xo H0 F H σ j mv) (hne : i ≠ j) : SlotR K g xo H0 F H (σ.set i o) j mv := by
  obtain ⟨m, d⟩ := mv
  have e : (σ.set i o)[j]? = σ[j]? := List.getElem?_set_ne hne
  cases m with
  | frz =>
    cases d with
    | exc C fs => obtain ⟨x, e1, e2, e3, e4, e5, e6⟩ := h; exact ⟨x, e1, e2, e3, e4, by rw [e]; exact e5, e6⟩
    | _ => obtain ⟨v, h1, h2⟩ := h; exact ⟨v, by rw [e]; exact h1, h2⟩
  | own => obtain ⟨p, h1, h2⟩ := h; exact ⟨p, by rw [e]; exact h1, h2⟩
  | bor => obtain ⟨p, h1, h2⟩ := h; exact ⟨p, by rw [e]; exact h1, h2⟩
  | lnt => exact h.elim
/-- a slot is stored -/
theorem FRel.set (R : FRel K g xo F0 H0 F H σ env) {i : Nat} {mv : Val} {v : V} (hi : i < env.length) (hs : SlotR K g xo H0 F H (σ.set i (some v)) i mv)
    (hsep : ∀ d p j e, mv = (Mode.own, d) → v = .ref p → j ≠ i → env[j]? = some (some (Mode.own, e)) → σ[j]? = some (some (.ref p)) → False) : FRel K g xo F0 H0 F H (σ.set i (some v)) (setS env i mv) := by
  have hiσ : i < σ.length := by rw [R.len]; exact hi
  refine ⟨R.ext, by simp [setS, R.len], fun j mw e => ?_, fun j k d e p hjk h1 h2 h3 h4 => ?_⟩
  · by_cases hj : i = j
    · subst hj
      unfold setS at e
      rw [List.getElem?_set_self hi] at e
      cases e
      exact hs
    · unfold setS at e
      rw [List.getElem?_set_ne hj] at e
      exact (R.slot j mw e).other hj
  · unfold setS at h1 h2
    by_cases hj : i = j
    · subst hj
      rw [List.getElem?_set_self hi] at h1
      rw [List.getElem?_set_ne hjk] at h2
      rw [List.getElem?_set_self hiσ] at h3
      rw [List.getElem?_set_ne hjk] at h4
      cases h1; cases h3
      exact hsep d p k e rfl rfl (Ne.symm hjk) h2 h4
    · rw [List.getElem?_set_ne hj] at h1 h3
      by_cases hk : i = k
      · subst hk
        rw [List.getElem?_set_self hi] at h2
        rw [List.getElem?_set_self hiσ] at h4
        cases h2; cases h4
        exact hsep e p j d rfl rfl (fun z => hj z.symm) h1 h3
      · rw [List.getElem?_set_ne hk] at h2 h4
        exact R.sep j k d e p hjk h1 h2 h3 h4
theorem FRel.setFrz (R : FRel K g xo F0 H0 F H σ env) {i : Nat} {d : D} {v : V} (hi : i < env.length) (r : Rep K g F d v) : FRel K g xo F0 H0 F H (σ.set i (some v)) (setS env i (.frz, d)) :=
  R.set hi (SlotR.frz (List.getElem?_set_self (by rw [R.len]; exact hi)) r) fun _ _ _ _ e => by cases e
/-- a slot out of range: nothing -/
theorem FRel.wipe1 (R : FRel K g xo F0 H0 F H σ env) (i : Nat) (o : Option V) : FRel K g xo F0 H0 F H (σ.set i o) (env.set i none) := by
  refine ⟨R.ext, by simp [R.len], fun j mw e => ?_, fun j k d e p hjk h1 h2 h3 h4 => ?_⟩
  · by_cases hj : i = j
    · subst hj
      by_cases hi : i < env.length
      · rw [List.getElem?_set_self hi] at e; cases e
      · rw [List.getElem?_eq_none (by simpa using hi)] at e; cases e
    · rw [List.getElem?_set_ne hj] at e
      exact (R.slot j mw e).other hj
  · have n1 : i ≠ j := fun z => by
      subst z
      by_cases hi : i < env.length
      · rw [List.getElem?_set_self hi] at h1; cases h1
      · rw [List.getElem?_eq_none (by simpa using hi)] at h1; cases h1
    have n2 : i ≠ k := fun z => by
      subst z
      by_cases hi : i < env.length
      · rw [List.getElem?_set_self hi] at h2; cases h2
      · rw [List.getElem?_eq_none (by simpa using hi)] at h2; cases h2
    rw [List.getElem?_set_ne n1] at h1 h3
    rw [List.getElem?_set_ne n2] at h2 h4
    exact R.sep j k d e p hjk h1 h2 h3 h4
theorem FRel.forget1 (R : FRel K g xo F0 H0 F H σ env) (i : Nat) : FRel K g xo F0 H0 F H σ (env.set i none) := by
  have h := R.wipe1 i (σ[i]?.getD none)
  have e : σ.set i (σ[i]?.getD none) = σ := by
    apply List.ext_getElem?
    intro j
    by_cases hj : i = j
    · subst hj
      by_cases hi : i < σ.length
      · rw [List.getElem?_set_self hi, List.getElem?_eq_getElem hi]; rfl
      · rw [List.getElem?_eq_none (by simpa using hi), List.getElem?_eq_none (by simpa using hi)]
    · rw [List.getElem?_set_ne hj]
  rw [e] at h
  exact h
theorem FRel.forget (R : FRel K g xo F0 H0 F H σ env) : ∀ is : List Nat, FRel K g xo F0 H0 F H σ (wipeE env is)
  | [] => R
  | i :: is => (R.forget is).forget1 i
theorem FRel.wipe (R : FRel K g xo F0 H0 F H σ env) : ∀ is : List Nat, FRel K g xo F0 H0 F H (L2.wipe σ is) (wipeE env is)
  | [] => R
  | i :: is => (R.wipe is).wipe1 i none
end

/-! ### targets -/
mutual
def T.slots : T → List Nat
  | .nm i => [i]
  | .tp ts => T.slotsL ts
def T.slotsL : List T → List Nat
  | [] => []
  | t :: ts => t.slots ++ T.slotsL ts
end
/-- the slots but those of l are as they were -/
def SameOut (l : List Nat) (σ σ' : L2.St) : Prop := σ'.length = σ.length ∧ ∀ j, j ∉ l → σ'[j]? = σ[j]?
theorem SameOut.refl {l : List Nat} {σ : L2.St} : SameOut l σ σ := ⟨rfl, fun _ _ => rfl⟩
theorem SameOut.trans {l l' : List Nat} {σ σ1 σ2 : L2.St} (a : SameOut l σ σ1) (b : SameOut l' σ1 σ2) : SameOut (l ++ l') σ σ2 :=
  ⟨b.1.trans a.1, fun j h => by
    simp only [List.mem_append, not_or] at h
    exact (b.2 j h.2).trans (a.2 j h.1)⟩
theorem SameOut.wipe {l vs : List Nat} {σ σ' : L2.St} (h : SameOut l σ σ') (hs : ∀ i ∈ l, i ∈ vs) : L2.wipe σ' vs = L2.wipe σ vs := by
  have key : ∀ (τ : L2.St) (vs : List Nat) (j : Nat), (L2.wipe τ vs)[j]? = if j ∈ vs then (if j < τ.length then some none else none) else τ[j]? := by
    intro τ vs
    induction vs with
    | nil => intro j; simp [L2.wipe]
    | cons v vs ih =>
      intro j
      unfold L2.wipe
      by_cases hj : v = j
      · subst hj
        simp only [List.mem_cons, true_or, if_true]
        by_cases hl : v < τ.length
        · rw [List.getElem?_set_self (by rw [wipe_length]; exact hl), if_pos hl]
        · rw [List.getElem?_eq_none (by rw [List.length_set, wipe_length]; omega), if_neg hl]
      · rw [List.getElem?_set_ne hj, ih]
        have : (j ∈ v :: vs) ↔ j ∈ vs := by simp [Ne.symm hj]
        simp only [this]
  apply List.ext_getElem?
  intro j
  rw [key, key, h.1]
  by_cases hj : j ∈ vs
  · rw [if_pos hj, if_pos hj]
  · rw [if_neg hj, if_neg hj, h.2 j fun z => hj (hs j z)]
def TGo (K : PySem.W.Frag) (g : Tab) (xo : XO) (F0 H0 : Hp) (t : T) : TG := fun v σ H Q => ∃ F env d env', FRel K g xo F0 H0 F H σ env ∧ Rep K g F d v ∧ bindT t d env = .ok env' ∧ ∀ σ', FRel K g xo F0 H0 F H σ' env' → SameOut t.slots σ σ' → Q σ' H
def TGso (K : PySem.W.Frag) (g : Tab) (xo : XO) (F0 H0 : Hp) (ts : List T) : TGs := fun vs σ H Q => ∃ F env ds env', FRel K g xo F0 H0 F H σ env ∧ RepL K g F ds vs ∧ bindTs ts ds env = .ok env' ∧ ∀ σ', FRel K g xo F0 H0 F H σ' env' → SameOut (T.slotsL ts) σ σ' → Q σ' H
theorem _root_.L2.PG.imp {X : Cx} {e : Expr} {t t' : TG} (h : PG X e t) (i : ∀ v σ H Q, t' v σ H Q → t v σ H Q) : PG X e t' := ⟨fun pins s σ H v u Q I r q => h.run pins s σ H v u Q I r (i v σ H Q q)⟩
theorem _root_.L2.PGs.imp {X : Cx} {e : List Expr} {t t' : TGs} (h : PGs X e t) (i : ∀ v σ H Q, t' v σ H Q → t v σ H Q) : PGs X e t' := ⟨fun pins s σ H v u Q I r q => h.run pins s σ H v u Q I r (i v σ H Q q)⟩
section
variable {g : Tab} {xo : XO} {F0 H0 : Hp} {X : Cx} {e : Expr} {es : List Expr} {pos : Pos}
theorem sg_nm {i : Nat} {x : Str} (hN : X.N.Nodup) (hi : X.N[i]? = some x) (hx : Loc X.env.scope x) (hf : X.fn x = true ∨ X.env.scope.names.lookup x = some .local) : PG X (.Name x pos) (TGo X.K g xo F0 H0 (.nm i)) := by
  have base : PG X (.Name x pos) (fun v σ H Q => i < σ.length → gName i v σ H Q) := ⟨fun pins s σ H v u Q I r q => (pg_name hN hi hx hf).run pins s σ H v u Q I r (q (by
    rw [I.len]
    exact (List.getElem?_eq_some_iff.mp hi).1))⟩
  refine base.imp fun v σ H Q ⟨F, env, d, env', R, r, e, q⟩ hl => ?_
  simp only [bindT] at e
  cases e
  exact q _ (R.setFrz (by rw [← R.len]; exact hl) r) ⟨by simp, fun j hj => List.getElem?_set_ne (fun z => hj (by simp [T.slots, z]))⟩
theorem sgs_nil : PGs X [] (TGso X.K g xo F0 H0 []) := by
  refine (pgs_nil (X := X)).imp fun vs σ H Q ⟨F, env, ds, env', R, r, e, q⟩ => ?_
  cases ds with
  | nil => simp only [bindTs] at e; cases e; exact ⟨r.inv0, q σ R SameOut.refl⟩
  | cons d ds => simp only [bindTs] at e; cases e
theorem sgs_cons {t : T} {ts : List T} (h1 : PG X e (TGo X.K g xo F0 H0 t)) (h2 : PGs X es (TGso X.K g xo F0 H0 ts)) (hs : (assignEach (e :: es) X.env).map (·.2) = assign e X.env :: (assignEach es X.env).map (·.2)) : PGs X (e :: es) (TGso X.K g xo F0 H0 (t :: ts)) := by
  refine (pgs_cons h1 h2 hs).imp fun vs σ H Q ⟨F, env, ds, env', R, r, e, q⟩ => ?_
  cases ds with
  | nil => simp only [bindTs] at e; cases e
  | cons d ds =>
    obtain ⟨v, w, rfl, r1, r2⟩ := r.inv
    simp only [bindTs] at e
    cases q1 : bindT t d env with
    | ok env1 =>
      rw [q1, Fx.R.bind_ok] at e
      exact ⟨v, w, rfl, F, env, d, env1, R, r1, q1, fun σ1 R1 s1 => ⟨F, env1, ds, env', R1, r2, e, fun σ2 R2 s2 => q σ2 R2 (s1.trans s2)⟩⟩
    | ex C f' => rw [q1] at e; cases e
    | no => rw [q1] at e; cases e
theorem bindTs_len : ∀ {ts : List T} {ds : List D} {env env' : Env}, bindTs ts ds env = .ok env' → ds.length = ts.length
  | [], [], _, _, _ => rfl
  | [], _ :: _, _, _, h => by simp only [bindTs] at h; cases h
  | _ :: _, [], _, _, h => by simp only [bindTs] at h; cases h
  | t :: ts, d :: ds, env, env', h => by
    simp only [bindTs] at h
    cases q1 : bindT t d env with
    | ok env1 => rw [q1, Fx.R.bind_ok] at h; simp [bindTs_len h]
    | ex C f' => rw [q1] at h; cases h
    | no => rw [q1] at h; cases h
theorem sg_tp {k : Nat} {ts : List T} (hc : X.calm = true) (h : PGs X es (TGso X.K g xo F0 H0 ts)) (hn : (assignEach es X.env).length = ts.length) (hst : (assignEach es X.env).findIdx? (·.1) = none) : PG X (.Tuple es k pos) (TGo X.K g xo F0 H0 (.tp ts)) := by
  refine (pg_tup hc h hn hst).imp fun v σ H Q ⟨F, env, d, env', R, r, e, q⟩ => ?_
  cases d with
  | tup xs =>
    obtain ⟨a, vs, rfl, hq, rl⟩ := r.tup
    simp only [bindT] at e
    exact ⟨a, vs, rfl, SqT.mono R.ext.sub hq, by rw [rl.length, bindTs_len e], F, env, xs, env', R, rl, e, q⟩
  | _ => simp only [bindT] at e; cases e
end
end Fx

/-! The walk of statements. -/
namespace Fx
open PySem PySem.Spec PyProof.Rows L2

section
variable {K : PySem.W.Frag} {g : Tab} {xo : XO} {F0 H0 F H : Hp} {σ : L2.St} {env : Env} {W : WX} {D : Ends}
def PostS (K : PySem.W.Frag) (g : Tab) (xo : XO) (F0 H0 : Hp) (W : WX) (D : Ends) (o : Out) : Prop := match o with
  | .nx env => ∀ σ F H, FRel K g xo F0 H0 F H σ env → D.nx σ H
  | .bk env => ∀ σ F H, FRel K g xo F0 H0 F H σ env → D.bk σ H
  | .ct env => ∀ σ F H, FRel K g xo F0 H0 F H σ env → D.ct σ H
  | .rt mv => ∀ v F H, Ext F0 H0 F H → RRep K g H0 F H mv v → D.rt v H
  | .ex C fs env => ∀ σ dx F H, FRel K g xo F0 H0 F H σ env → XRep K g H0 F H C fs dx → W (.ref (g.xa C)) dx σ H
  | .no => False
def TSo (K : PySem.W.Frag) (g : Tab) (xo : XO) (F0 H0 : Hp) (W : WX) (f : Env → Out) : TS := fun D σ H => ∃ F env, FRel K g xo F0 H0 F H σ env ∧ PostS K g xo F0 H0 W D (f env)

theorem postS_ex {C : Nat} {fs : List Fx.D} (R0 : FRel K g xo F0 H0 F H σ env) (h : PostS K g xo F0 H0 W D (.ex C fs env)) : XP K g W σ F H C fs :=
  fun dx F' H' e x => h σ dx F' H' (R0.ext' e) (x.start R0.ext)
/-- first an expression -/
theorem bindS {f : Env → Fx.R Val} {k : Val → Out} {Q' : VK} (R0 : FRel K g xo F0 H0 F H σ env) (h : PostS K g xo F0 H0 W D (ofR env (f env) k))
    (hk : ∀ mv v F' H', f env = .ok mv → Ext F H F' H' → VRep K g H0 H F' H' mv v → FRel K g xo F0 H0 F' H' σ env → PostS K g xo F0 H0 W D (k mv) → Q' v H') : TEo K g xo F0 H0 W f σ H Q' := by
  refine ⟨F, env, R0, ?_⟩
  cases e : f env with
  | ok mv =>
    rw [e, ofR_ok] at h
    exact fun v F' H' e' x => hk mv v F' H' e e' x (R0.ext' e') h
  | ex C fs => rw [e, ofR_ex] at h; exact postS_ex R0 h
  | no => rw [e, ofR_no] at h; exact h.elim
/-- .. that may be kept -/
theorem bindSE {f : Env → Fx.R Val} {k : Fx.D → Out} {Q' : VK} (R0 : FRel K g xo F0 H0 F H σ env) (h : PostS K g xo F0 H0 W D (ofR env ((f env).bind esc) k))
    (hk : ∀ d v F' H', Ext F H F' H' → Rep K g F' d v → FRel K g xo F0 H0 F' H' σ env → PostS K g xo F0 H0 W D (k d) → Q' v H') : TEo K g xo F0 H0 W f σ H Q' := by
  refine ⟨F, env, R0, ?_⟩
  cases e : f env with
  | ok mv =>
    rw [e, Fx.R.bind_ok] at h
    intro v F' H' e' x
    obtain ⟨F2, e2, a⟩ := x.pas e'
    cases q : esc mv with
    | ok d =>
      rw [q, ofR_ok] at h
      refine hk d v F2 H' e2 (a.esc ?_) (R0.ext' e2) h
      obtain ⟨m, d'⟩ := mv
      cases m <;> first | exact q | cases q
    | ex C fs => obtain ⟨m, d'⟩ := mv; cases m <;> cases q
    | no => rw [q, ofR_no] at h; exact h.elim
  | ex C fs => rw [e, Fx.R.bind_ex, ofR_ex] at h; exact postS_ex R0 h
  | no => rw [e, Fx.R.bind_no, ofR_no] at h; exact h.elim
theorem bindST {f : Env → Fx.R Bool} {k : Bool → Out} {Q' : Bool → Hp → Prop} (R0 : FRel K g xo F0 H0 F H σ env) (h : PostS K g xo F0 H0 W D (ofR env (f env) k))
    (hk : ∀ b F' H', Ext F H F' H' → FRel K g xo F0 H0 F' H' σ env → PostS K g xo F0 H0 W D (k b) → Q' b H') : TTo K g xo F0 H0 W f σ H Q' := by
  refine ⟨F, env, R0, ?_⟩
  cases e : f env with
  | ok b =>
    rw [e, ofR_ok] at h
    exact fun F' H' e' => hk b F' H' e' (R0.ext' e') h
  | ex C fs => rw [e, ofR_ex] at h; exact postS_ex R0 h
  | no => rw [e, ofR_no] at h; exact h.elim
/-- another thing at an own slot's place -/
theorem FRel.write (R0 : FRel K g xo F0 H0 F H σ env) {i : Nat} {d d' : Fx.D} {p : Addr} {o' : HO} (h1 : env[i]? = some (some (Mode.own, d))) (h2 : σ[i]? = some (some (V.ref p))) (h3 : OwnAt K g F (upd H p o') p d') : FRel K g xo F0 H0 F (upd H p o') σ (setS env i (.own, d')) := by
  have hi : i < env.length := (List.getElem?_eq_some_iff.mp h1).1
  obtain ⟨q, z1, hf, h0, hpn, _⟩ := R0.slot i _ h1
  rw [h2] at z1; cases z1
  have keep : ∀ a, a ≠ p → upd H p o' a = H a := fun a ha => upd_ne ha
  refine ⟨R0.ext.write h0 hf, by simp [setS, R0.len], fun j mw e => ?_, fun j k d1 d2 q hjk g1 g2 g3 g4 => ?_⟩
  · unfold setS at e
    by_cases hj : i = j
    · subst hj
      rw [List.getElem?_set_self hi] at e
      cases e
      exact ⟨p, h2, hf, h0, hpn, h3⟩
    · rw [List.getElem?_set_ne hj] at e
      have sl := R0.slot j mw e
      obtain ⟨m, dd⟩ := mw
      cases m with
      | frz =>
        cases dd with
        | exc C fs => exact sl
        | _ => exact sl
      | own =>
        obtain ⟨q, y1, y2, y3, ypn, y4⟩ := sl
        have ne : q ≠ p := fun z => by subst z; exact R0.sep i j d dd q hj h1 e h2 y1
        exact ⟨q, y1, y2, y3, ypn, y4.mono (fun _ _ z => z) fun o z => by rw [keep q ne]; exact z⟩
      | bor =>
        obtain ⟨q, y1, y2, y4⟩ := sl
        have ne : q ≠ p := fun z => by subst z; exact y2 h0
        exact ⟨q, y1, y2, y4.mono (fun _ _ z => z) fun o z => by rw [keep q ne]; exact z⟩
      | lnt => exact sl.elim
  · unfold setS at g1 g2
    have own : ∀ l e', (env.set i (some (Mode.own, d')))[l]? = some (some (Mode.own, e')) → ∃ e'', env[l]? = some (some (Mode.own, e'')) := fun l e' z => by
      by_cases hl : i = l
      · subst hl; exact ⟨d, h1⟩
      · rw [List.getElem?_set_ne hl] at z; exact ⟨e', z⟩
    obtain ⟨x1, w1⟩ := own j d1 g1
    obtain ⟨x2, w2⟩ := own k d2 g2
    exact R0.sep j k x1 x2 q hjk w1 w2 g3 g4
/-- an own slot is frozen -/
theorem FRel.freeze1 (R0 : FRel K g xo F0 H0 F H σ env) {i : Nat} {d : Fx.D} (h1 : env[i]? = some (some (Mode.own, d))) : ∃ F', FRel K g xo F0 H0 F' H σ (env.set i (some (.frz, d))) := by
  have hi : i < env.length := (List.getElem?_eq_some_iff.mp h1).1
  obtain ⟨p, hs, hf, h0, _, ho⟩ := R0.slot i _ h1
  obtain ⟨u, hu⟩ := ho.there
  have sf : ∀ a o, F a = some o → upd F p u a = some o := fun a o q => by rw [upd_ne (ne_of_none q hf)]; exact q
  refine ⟨upd F p u, R0.ext.freeze hu h0 hf, by simp [R0.len], fun j mw e => ?_, fun j k d1 d2 q hjk g1 g2 g3 g4 => ?_⟩
  · by_cases hj : i = j
    · subst hj
      rw [List.getElem?_set_self hi] at e
      cases e
      exact SlotR.frz hs (ho.rep hu hf)
    · rw [List.getElem?_set_ne hj] at e
      have sl := R0.slot j mw e
      obtain ⟨m, dd⟩ := mw
      cases m with
      | frz =>
        cases dd with
        | exc C fs => obtain ⟨x, e1, e2, e3, e4, e5, e6⟩ := sl; exact ⟨x, e1, e2, e3, e4, e5, fun f r z => by
            obtain ⟨dd, vs, y1, y2, y3⟩ := e6 f r z
            exact ⟨dd, vs, y1, sf _ _ y2, RepL.mono sf _ _ y3⟩⟩
        | _ => obtain ⟨v, y1, y2⟩ := sl; exact ⟨v, y1, Rep.mono sf _ _ y2⟩
      | own =>
        obtain ⟨q, y1, y2, y3, ypn, y4⟩ := sl
        have ne : q ≠ p := fun z => by subst z; exact R0.sep i j d dd q hj h1 e hs y1
        exact ⟨q, y1, by rw [upd_ne ne]; exact y2, y3, ypn, y4.mono sf fun o z => z⟩
      | bor => obtain ⟨q, y1, y2, y4⟩ := sl; exact ⟨q, y1, y2, y4.mono sf fun o z => z⟩
      | lnt => exact sl.elim
  · have own : ∀ l e', (env.set i (some (Mode.frz, d)))[l]? = some (some (Mode.own, e')) → env[l]? = some (some (Mode.own, e')) := fun l e' z => by
      by_cases hl : i = l
      · subst hl; rw [List.getElem?_set_self hi] at z; cases z
      · rw [List.getElem?_set_ne hl] at z; exact z
    exact R0.sep j k d1 d2 q hjk (own _ _ g1) (own _ _ g2) g3 g4
theorem FRel.freeze (R0 : FRel K g xo F0 H0 F H σ env) : ∀ is : List Nat, ∃ F', FRel K g xo F0 H0 F' H σ (Fx.freeze env is)
  | [] => ⟨F, R0⟩
  | i :: r => by
    obtain ⟨F1, R1⟩ := R0.freeze r
    unfold Fx.freeze
    split
    · rename_i d e; exact R1.freeze1 e
    · exact ⟨F1, R1⟩
/-- a fresh thing is stored -/
theorem FRel.setOwn {F1 H1 : Hp} (R0 : FRel K g xo F0 H0 F H σ env) (R1 : FRel K g xo F0 H0 F1 H1 σ env) {i : Nat} {d : Fx.D} {v : V} (hi : i < env.length) (hn0 : i ≠ 0) (hv : VRep K g H0 H F1 H1 (.own, d) v) : FRel K g xo F0 H0 F1 H1 (σ.set i (some v)) (setS env i (.own, d)) := by
  obtain ⟨p, rfl, hn, hf, ho⟩ := hv
  refine R1.set hi ⟨p, List.getElem?_set_self (by rw [R1.len]; exact hi), hf, R0.ext.free hn, fun z => absurd z hn0, ho⟩ fun d' p' j e q hp hj h1 h2 => ?_
  cases hp
  obtain ⟨q', z1, _, _, _, z4⟩ := R0.slot j _ h1
  rw [h2] at z1; cases z1
  obtain ⟨u, hu⟩ := z4.there
  rw [hn] at hu; cases hu
theorem keep_set {F1 H1 : Hp} {mv mw : Val} {b : Bool} {v : V} {i : Nat} (hi : i < env.length) (hn0 : b = true ∨ i ≠ 0) (R0 : FRel K g xo F0 H0 F H σ env) (e1 : Ext F H F1 H1) (hv : VRep K g H0 H F1 H1 mv v) (hk : keep b mv = .ok mw) : ∃ F2, FRel K g xo F0 H0 F2 H1 (σ.set i (some v)) (setS env i mw) := by
  obtain ⟨m, d⟩ := mv
  cases m with
  | frz => cases hk; exact ⟨F1, (R0.ext' e1).setFrz hi hv⟩
  | own =>
    cases hk
    cases b with
    | true =>
      obtain ⟨F2, e2, a⟩ := hv.pas e1
      exact ⟨F2, (R0.ext' e2).setFrz hi a⟩
    | false => exact ⟨F1, R0.setOwn (R0.ext' e1) hi (hn0.resolve_left (by decide)) hv⟩
  | bor => cases hk
  | lnt => cases hk
theorem keep_ex {b : Bool} {mv : Val} {C : Nat} {fs : List Fx.D} : keep b mv ≠ .ex C fs := by
  obtain ⟨m, d⟩ := mv
  cases m <;> intro h <;> cases h
end

abbrev SS (g : Tab) (xo : XO) (F0 H0 : Hp) (W : WX) (X : Cx) (st : Stmt) (f : Env → Out) : Prop := PS X st (TSo X.K g xo F0 H0 W f)
abbrev SSs (g : Tab) (xo : XO) (F0 H0 : Hp) (W : WX) (X : Cx) (st : List Stmt) (f : Env → Out) : Prop := PSs X st (TSo X.K g xo F0 H0 W f)
theorem _root_.L2.PS.len {X : Cx} {st : Stmt} {t : TS} (h : PS X st t) : PS X st (fun D σ H => σ.length = X.N.length → t D σ H) := ⟨fun pins s σ H D I q => h.run pins s σ H D I (q I.len)⟩

section
variable {g : Tab} {xo : XO} {F0 H0 : Hp} {W : WX} {X : Cx} {e c k tg : Expr} {st : Stmt} {sts as bs : List Stmt} {pos pos' apos spos : Pos} {fa fk : Env → Fx.R Val} {fs : Env → Fx.R (List Val)} {ft : Env → Fx.R Bool} {f1 f2 : Env → Out}
theorem ss_nil : SSs g xo F0 H0 W X [] (fun env => .nx env) := (pss_nil (X := X)).imp fun D σ H ⟨F, env, R0, p⟩ => p σ F H R0
theorem ss_cons (h1 : SS g xo F0 H0 W X st f1) (h2 : SSs g xo F0 H0 W X sts f2) : SSs g xo F0 H0 W X (st :: sts) (fun env => goOn (f1 env) f2) := by
  refine (pss_cons h1 h2).imp fun D σ H ⟨F, env, R0, p⟩ => ⟨F, env, R0, ?_⟩
  have p : PostS X.K g xo F0 H0 W D (goOn (f1 env) f2) := p
  cases e : f1 env with
  | nx env1 => rw [e] at p; exact fun σ' F' H' R' => ⟨F', env1, R', p⟩
  | _ => rw [e] at p; exact p
theorem ss_fz {is : List Nat} (h : SSs g xo F0 H0 W X sts f2) : SSs g xo F0 H0 W X sts (fun env => goOn (.nx (freeze env is)) f2) := h.imp fun D σ H ⟨F, env, R0, p⟩ => by
  obtain ⟨F1, R1⟩ := R0.freeze is
  exact ⟨F1, _, R1, p⟩
theorem ss_fg {is : List Nat} (h : SSs g xo F0 H0 W X sts f2) : SSs g xo F0 H0 W X sts (fun env => goOn (.nx (wipeE env is)) f2) := h.imp fun D σ H ⟨F, env, R0, p⟩ => ⟨F, _, R0.forget is, p⟩
theorem ss_pass : SS g xo F0 H0 W X (.Pass pos) (fun env => .nx env) := (ps_pass (X := X)).imp fun D σ H ⟨F, env, R0, p⟩ => p σ F H R0
theorem ss_brk : SS g xo F0 H0 W X (.Break pos) (fun env => .bk env) := (ps_break (X := X)).imp fun D σ H ⟨F, env, R0, p⟩ => p σ F H R0
theorem ss_cnt : SS g xo F0 H0 W X (.Continue pos) (fun env => .ct env) := (ps_continue (X := X)).imp fun D σ H ⟨F, env, R0, p⟩ => p σ F H R0
theorem ss_doc {x : Str} {j : Nat} : SS g xo F0 H0 W X (.Expr (.Constant (.str x) j pos) pos') (fun env => .nx env) := (ps_doc (X := X)).imp fun D σ H ⟨F, env, R0, p⟩ => p σ F H R0
/-- what a name's statement does with a value's t -/
theorem st_set {i : Nat} {b : Bool} (hi : i < X.N.length) (hn0 : b = true ∨ i ≠ 0) : ∀ (D : Ends) (σ : L2.St) (H : Hp), TSo X.K g xo F0 H0 W (fun env => ofR env ((fa env).bind (keep b)) fun v => .nx (setS env i v)) D σ H → σ.length = X.N.length → TEo X.K g xo F0 H0 W fa σ H (fun x H1 => D.nx (σ.set i (some x)) H1) := by
  intro D σ H ⟨F, env, R0, p⟩ hl
  have p : PostS X.K g xo F0 H0 W D (ofR env ((fa env).bind (keep b)) fun v => .nx (setS env i v)) := p
  have hi' : i < env.length := by rw [← R0.len, hl]; exact hi
  refine ⟨F, env, R0, ?_⟩
  cases q : fa env with
  | ok mv =>
    rw [q, Fx.R.bind_ok] at p
    intro v F' H' e1 hv
    cases q2 : keep b mv with
    | ok mw =>
      rw [q2] at p
      obtain ⟨F2, R2⟩ := keep_set hi' hn0 R0 e1 hv q2
      exact p _ F2 H' R2
    | ex C fs => exact absurd q2 keep_ex
    | no => rw [q2] at p; exact p.elim
  | ex C fs => rw [q] at p; exact postS_ex R0 p
  | no => rw [q] at p; exact p.elim
theorem ss_set {i : Nat} {x : Str} {b : Bool} (hn0 : b = true ∨ i ≠ 0) (hN : X.N.Nodup) (hi : X.N[i]? = some x) (hx : Loc X.env.scope x) (ha : SE g xo F0 H0 W X e fa) (hs : swapsWith e (some (.Name x pos')) pos.line X.env = pure false) (hf : X.fn x = true ∨ X.env.scope.names.lookup x = some .local) :
    SS g xo F0 H0 W X (.Assign [.Name x pos'] e pos) (fun env => ofR env ((fa env).bind (keep b)) fun v => .nx (setS env i v)) := by
  refine (ps_set hN hi hx ha hs hf).len.imp fun D σ H h hl => ?_
  exact st_set (List.getElem?_eq_some_iff.mp hi).1 hn0 D σ H h hl
theorem ss_setT {t : T} (ha : SE g xo F0 H0 W X e fa) (hg : ∀ F0, PG X tg (TGo X.K g xo F0 H0 t)) (hs : swapsWithSole [tg] e pos.line X.env = pure false) (hw : swappedStores [tg] e X.env = pure none)
    (h1 : (assignEach [tg] X.env).map (·.2) = [assign tg X.env]) : SS g xo F0 H0 W X (.Assign [tg] e pos) (fun env => ofR env ((fa env).bind esc) fun d => ofR env (noEx (bindT t d env)) fun env1 => .nx env1) := by
  refine (ps_asg ha (hg F0) hs hw h1).imp fun D σ H ⟨F, env, R0, p⟩ => ?_
  refine bindSE R0 p fun d v F1 H1 e1 r R1 p1 => ?_
  cases q : bindT t d env with
  | ok env1 =>
    rw [q] at p1
    exact ⟨F1, env, d, env1, R1, r, q, fun σ' R' _ => p1 σ' F1 H1 R'⟩
  | ex C fs => rw [q] at p1; exact p1.elim
  | no => rw [q] at p1; exact p1.elim
theorem ownS_inv {env : Env} {i : Nat} {d : Fx.D} (h : ownS env i = .ok d) : env[i]? = some (some (Mode.own, d)) := by
  unfold ownS at h
  split at h
  · rename_i d' e; cases h; exact e
  · cases h
theorem ownL_inv {env : Env} {i : Nat} {xs : List Fx.D} (h : ownL env i = .ok xs) : env[i]? = some (some (Mode.own, .lst xs)) := by
  unfold ownL at h
  split at h
  · rename_i d' e; cases h; exact e
  · cases h
theorem ofR_noEx {env : Env} {D : Ends} {α : Type} {r : Fx.R α} {k : α → Out} (h : PostS X.K g xo F0 H0 W D (ofR env (noEx r) k)) : ∃ a, r = .ok a ∧ PostS X.K g xo F0 H0 W D (k a) := by
  cases r with
  | ok a => exact ⟨a, rfl, h⟩
  | ex C fs => exact h.elim
  | no => exact h.elim
theorem _root_.L2.PSet.or {X : Cx} {t t' : TSet} (h : PSet X t) (h' : PSet X t') : PSet X (fun o i v H Q => t o i v H Q ∨ t' o i v H Q) := by
  intro pins s σ H o i v ov iv u Q I ro ri rv q
  rcases q with q | q
  · exact h pins s σ H o i v ov iv u Q I ro ri rv q
  · exact h' pins s σ H o i v ov iv u Q I ro ri rv q
theorem ss_setI {i : Nat} {x : Str} {px : Pos} (hwd : g.wd = X.w) (hu : X.A.units + 65 < cLine) (hN : X.N[i]? = some x) (hv : Vis X.env.scope x) (hd : (x == ("__debug__" : Str)) = false) (hcd : (x == ("__classdict__" : Str)) = false) (hpl : ∀ v, assign (.Subscript (.Name x px) k apos) X.env v = (do
      let ov ← holding [v] (PySem.eval (.Name x px) X.env)
      let iv ← holding [v, ov] (PySem.eval k X.env)
      standAt apos
      holding [v, ov, iv] (setItem ov iv v)
      release [v, ov, iv] []))
    (ha : SE g xo F0 H0 W X e fa) (hk : SE g xo F0 H0 W X k fk) (hs : swapsWithSole [.Subscript (.Name x px) k apos] e pos.line X.env = pure false) (hw : swappedStores [.Subscript (.Name x px) k apos] e X.env = pure none)
    (h1 : (assignEach [.Subscript (.Name x px) k apos] X.env).map (·.2) = [assign (.Subscript (.Name x px) k apos) X.env]) : SS g xo F0 H0 W X (.Assign [.Subscript (.Name x px) k apos] e pos)
      (fun env => ofR env ((fa env).bind esc) fun d => ofR env (noEx (ownS env i)) fun o => ofR env (fk env) fun kv => ofR env (noEx (setItemD o kv.2 d)) fun o' => .nx (setS env i (.own, o'))) := by
  refine (ps_asg ha (pg_sub (pe_var hN hv hd hcd) hk (set_list.or (set_dct hwd hu)) hpl) hs hw h1).imp fun D σ H ⟨F, env, R0, p⟩ => ?_
  refine bindSE R0 p fun d v F1 H1 e1 r R1 p1 => ?_
  obtain ⟨o, q1, p2⟩ := ofR_noEx p1
  have q2 := ownS_inv q1
  obtain ⟨t, hs, hf, h0, _, ho⟩ := R1.slot i _ q2
  refine ⟨.ref t, hs, ?_⟩
  refine bindS R1 p2 fun mv w F2 H2 eq e2 x2 R2 p3 => ?_
  obtain ⟨o', q3, p4⟩ := ofR_noEx p3
  obtain ⟨t', hs', hf2, _, _, ho2⟩ := R2.slot i _ q2
  rw [hs] at hs'; cases hs'
  unfold setItemD at q3
  split at q3
  · rename_i xs j hj
    obtain ⟨F3, e3, a⟩ := x2.pas e2
    have hw : w = .int j := by
      have z := a.rd
      rw [pas_snd, hj] at z
      exact z.int
    subst hw
    obtain ⟨vs, hvs, rvs⟩ := ho2
    have hlen := rvs.length
    cases q4 : setList xs j d with
    | none => rw [q4] at q3; cases q3
    | some ys =>
      rw [q4] at q3
      cases q3
      have rd : Rep X.K g F2 d v := Rep.mono e2.ff _ _ r
      have fin : ∀ n : Nat, ys = xs.set n d → n < xs.length → ixN vs.length j = some n → ∃ p xs k j_1, V.ref t = .ref p ∧ V.int j = .int k ∧ H2 p = some (.lst xs) ∧ ixN xs.length k = some j_1 ∧ D.nx σ (upd H2 p (.lst (xs.set j_1 v))) := fun n hy hn hx =>
        ⟨t, vs, j, n, rfl, rfl, hvs, hx, p4 σ F2 _ (R2.write q2 hs ⟨_, upd_same, by rw [hy]; exact RepL.set n rvs rd⟩)⟩
      unfold setList at q4
      unfold ixN at fin
      by_cases h0' : 0 ≤ j
      · rw [if_pos h0'] at q4
        split at q4
        · rename_i hlt
          cases q4
          exact .inl (fin j.toNat rfl hlt (by rw [if_pos h0', if_pos (by omega)]))
        · cases q4
      · rw [if_neg h0'] at q4
        split at q4
        · rename_i hge
          cases q4
          exact .inl (fin _ rfl (by omega) (by rw [if_neg h0', if_pos (by omega), hlen]))
        · cases q4
  · rename_i ks ds
    split at q3
    · rename_i hc
      rw [Bool.and_eq_true, decide_eq_true_eq] at hc
      cases q3
      obtain ⟨F3, e3, a⟩ := x2.pas e2
      have z := a.rd
      rw [pas_snd] at z
      obtain ⟨ep, kvs, vvs, g1, g2, g3, g4⟩ := ho2
      have R3 := (R1.ext' e3)
      obtain ⟨t', hs', hf3, _, _, ho3⟩ := R3.slot i _ q2
      rw [hs] at hs'; cases hs'
      obtain ⟨ep, kvs, vvs, g1, g2, g3, g4⟩ := ho3
      refine .inr ⟨F3, t, ep, ks, ds, kvs, vvs, mv.2, d, rfl, R3.ext.sub, ⟨g1, g2, g3, g4⟩, z.key hc.1, hc.1, Rep.mono e3.ff _ _ r, by rw [← sizeL_eq]; exact hc.2, hf3, fun ep' kvs' vvs' hh => ?_⟩
      exact p4 σ F3 _ (R3.write q2 hs ⟨ep', kvs', vvs', upd_same, hh.rk, hh.rv, hh.ok⟩)
    · cases q3
  · cases q3
end
end Fx

namespace Fx
open PySem PySem.Spec PyProof.Rows L2

/-! ### a field -/
structure FldSet (g : Tab) (X : Cx) (C j : Nat) (m : Str) : Prop where
  ok : FldOk g X C j m
  few : (g.cf C).length < 1000
theorem putF_set {f : Str} {y : V} : ∀ {cf : List Str} {vs : List V} {j : Nat}, cf.Nodup → cf[j]? = some f → j < vs.length → L2.putF f y (cf.zip vs) = cf.zip (vs.set j y)
  | [], vs, j, hn, hj, hl => by cases hj
  | c :: cf, [], j, hn, hj, hl => by cases hl
  | c :: cf, v :: vs, 0, hn, hj, hl => by
    cases hj
    show L2.putF f y ((f, v) :: cf.zip vs) = _
    simp [L2.putF]
  | c :: cf, v :: vs, j + 1, hn, hj, hl => by
    have hn' := List.nodup_cons.mp hn
    have hc : c ≠ f := fun z => hn'.1 (by rw [z]; exact List.mem_of_getElem? hj)
    show L2.putF f y ((c, v) :: cf.zip vs) = (c, v) :: cf.zip (vs.set j y)
    rw [← putF_set hn'.2 hj (by simpa using hl)]
    simp [L2.putF, hc]
theorem putF_new {f : Str} {y : V} : ∀ {cf : List Str} {vs : List V}, cf.Nodup → cf[vs.length]? = some f → L2.putF f y (cf.zip vs) = cf.zip (vs ++ [y])
  | [], vs, hn, hj => by cases hj
  | c :: cf, [], hn, hj => by
    cases hj
    show L2.putF f y [] = (f, y) :: cf.zip []
    simp [L2.putF]
  | c :: cf, v :: vs, hn, hj => by
    have hn' := List.nodup_cons.mp hn
    have hj : cf[vs.length]? = some f := hj
    have hc : c ≠ f := fun z => hn'.1 (by rw [z]; exact List.mem_of_getElem? hj)
    show L2.putF f y ((c, v) :: cf.zip vs) = (c, v) :: cf.zip (vs ++ [y])
    rw [← putF_new hn'.2 hj]
    simp [L2.putF, hc]
section
variable {g : Tab} {xo : XO} {F0 H0 : Hp} {W : WX} {X : Cx} {e c k tg : Expr} {es : List Expr} {st : Stmt} {sts as bs : List Stmt} {pos pos' apos spos : Pos} {fa fk : Env → Fx.R Val} {fs : Env → Fx.R (List Val)} {ft : Env → Fx.R Bool} {f1 f2 : Env → Out}
theorem ofR_asIns {env : Env} {D : Ends} {o : Fx.D} {C : Nat} {k : List Fx.D → Out} (h : PostS X.K g xo F0 H0 W D (ofR env (noEx (asIns C o)) k)) : ∃ fs, o = .ins C fs ∧ PostS X.K g xo F0 H0 W D (k fs) := by
  obtain ⟨fs, q, p⟩ := ofR_noEx h
  unfold asIns at q
  split at q
  · rename_i C' fs'
    split at q
    · rename_i e; cases q; subst e; exact ⟨_, rfl, p⟩
    · cases q
  · cases q
theorem ss_setF {i C j : Nat} {x m : Str} {px : Pos} (c : FldSet g X C j m) (hN : X.N[i]? = some x) (hv : Vis X.env.scope x) (hd : (x == ("__debug__" : Str)) = false) (hcd : (x == ("__classdict__" : Str)) = false)
    (ha : SE g xo F0 H0 W X e fa) (hs : swapsWith e (some (.Attribute (.Name x px) m apos)) pos.line X.env = pure false) : SS g xo F0 H0 W X (.Assign [.Attribute (.Name x px) m apos] e pos)
      (fun env => ofR env ((fa env).bind esc) fun d => ofR env (noEx (ownS env i)) fun o => ofR env (noEx (asIns C o)) fun fs => ofR env (Fx.R.ofOpt (putField fs j d)) fun fs' => .nx (setS env i (.own, .ins C fs'))) := by
  refine (ps_fld (pe_var hN hv hd hcd) ha hs).imp fun D σ H ⟨F, env, R0, p⟩ => ?_
  refine bindSE R0 p fun d v F1 H1 e1 r R1 p1 => ?_
  obtain ⟨o, q1, p2⟩ := ofR_noEx p1
  have q2 := ownS_inv q1
  obtain ⟨fs, rfl, p3⟩ := ofR_asIns p2
  obtain ⟨t, hs, hf, h0, _, dx, vs, ho, rv⟩ := R1.slot i _ q2
  cases q3 : putField fs j d with
  | none => rw [q3] at p3; exact p3.elim
  | some fs' =>
    rw [q3] at p3
    have hl := rv.length
    refine ⟨.ref t, hs, t, _, dx, _, rfl, ho, c.ok.cl, c.ok.no, ?_, ?_⟩
    · have := c.few
      rw [List.length_zip]
      omega
    · have fin : ∀ ws, L2.putF m v ((g.cf C).zip vs) = (g.cf C).zip ws → RepL X.K g F1 fs' ws → D.nx σ (upd H1 t (.ins (g.ca C) dx (L2.putF m v ((g.cf C).zip vs)))) := fun ws hw rw' => by
        rw [hw]
        exact p3 σ F1 _ (R1.write q2 hs ⟨dx, ws, upd_same, rw'⟩)
      unfold putField at q3
      split at q3
      · rename_i hlt
        cases q3
        exact fin _ (putF_set c.ok.nd c.ok.at_ (by omega)) (RepL.set j rv r)
      · split at q3
        · rename_i he
          cases q3
          exact fin _ (putF_new c.ok.nd (by rw [hl, ← he]; exact c.ok.at_)) (rv.append (.cons r .nil))
        · cases q3

/-! ### lists -/
theorem ss_app {i : Nat} {x : Str} {px : Pos} (hN : X.N[i]? = some x) (hv : Vis X.env.scope x) (hd : (x == ("__debug__" : Str)) = false) (hcd : (x == ("__classdict__" : Str)) = false)
    (ha : SE g xo F0 H0 W X e fa) (hbase : attributeBase (.Name x px) "append" X.env (PySem.eval (.Name x px) X.env) = PySem.eval (.Name x px) X.env)
    (hfew : ((backTo pos (starEach [e] X.env)).all (fun x => !x.1) && (backToKw pos (keywordEach [] X.env)).all (fun x => x.1.isSome)
      && decide (([e] : List Expr).length + ([] : List Keyword).length + (if ([] : List Keyword).isEmpty then 0 else 1) < 30)) = true) (hline : (apos.endLine == pos.line) = true) (hst : starEach [e] X.env = (false, PySem.eval e X.env) :: starEach [] X.env)
    (hs : swapsWith (.Call (.Attribute (.Name x px) "append" apos) [e] [] pos) none spos.line X.env = pure false) : SS g xo F0 H0 W X (.Expr (.Call (.Attribute (.Name x px) "append" apos) [e] [] pos) spos)
      (fun env => ofR env (ownL env i) fun xs => ofR env ((fa env).bind esc) fun d => if xs.length < sizeL then .nx (setS env i (.own, .lst (xs ++ [d]))) else .no) := by
  refine (ps_expr (pe_bm PySem.F.plainAttrs_list PySem.F.slot_list_append PySem.F.type_list_append mt_append (pe_var hN hv hd hcd) (pa_cons ha pa_nil hst) hbase hfew hline hst rfl) hs).imp fun D σ H ⟨F, env, R0, p⟩ => ?_
  have p : PostS X.K g xo F0 H0 W D (ofR env (ownL env i) fun xs => ofR env ((fa env).bind esc) fun d => if xs.length < sizeL then .nx (setS env i (.own, .lst (xs ++ [d]))) else .no) := p
  cases q1 : ownL env i with
  | ex C fs => unfold ownL at q1; split at q1 <;> cases q1
  | no => rw [q1] at p; exact p.elim
  | ok xs =>
    rw [q1, ofR_ok] at p
    have q2 := ownL_inv q1
    obtain ⟨t, hs, hf, h0, _, vs, ho, rv⟩ := R0.slot i _ q2
    refine ⟨.ref t, hs, .inl ⟨rfl, _, SqL.of ho⟩, ?_⟩
    refine bindSE R0 p fun d v F1 H1 e1 r R1 p1 => ?_
    obtain ⟨t', hs', _, _, _, vs1, ho1, rv1⟩ := R1.slot i _ q2
    rw [hs] at hs'; cases hs'
    split at p1
    · rename_i hz
      refine ⟨t, vs1, v, rfl, rfl, ho1, ?_, p1 σ F1 _ (R1.write q2 hs ⟨_, upd_same, rv1.append (.cons r .nil)⟩)⟩
      rw [rv1.length, sizeLine_eq]
      exact hz
    · exact p1.elim

theorem ss_ext {i : Nat} {x : Str} {px : Pos} (hN : X.N[i]? = some x) (hv : Vis X.env.scope x) (hd : (x == ("__debug__" : Str)) = false) (hcd : (x == ("__classdict__" : Str)) = false)
    (ha : SE g xo F0 H0 W X e fa) (hbase : attributeBase (.Name x px) "extend" X.env (PySem.eval (.Name x px) X.env) = PySem.eval (.Name x px) X.env)
    (hfew : ((backTo pos (starEach [e] X.env)).all (fun x => !x.1) && (backToKw pos (keywordEach [] X.env)).all (fun x => x.1.isSome)
      && decide (([e] : List Expr).length + ([] : List Keyword).length + (if ([] : List Keyword).isEmpty then 0 else 1) < 30)) = true) (hline : (apos.endLine == pos.line) = true) (hst : starEach [e] X.env = (false, PySem.eval e X.env) :: starEach [] X.env)
    (hs : swapsWith (.Call (.Attribute (.Name x px) "extend" apos) [e] [] pos) none spos.line X.env = pure false) : SS g xo F0 H0 W X (.Expr (.Call (.Attribute (.Name x px) "extend" apos) [e] [] pos) spos)
      (fun env => ofR env (ownL env i) fun xs => ofR env (fa env) fun v => ofR env (asLst v.2) fun ys => if xs.length + ys.length ≤ sizeL then .nx (setS env i (.own, .lst (xs ++ ys))) else .no) := by
  refine (ps_expr (pe_bm PySem.F.plainAttrs_list PySem.F.slot_list_extend PySem.F.type_list_extend mt_extend (pe_var hN hv hd hcd) (pa_cons ha pa_nil hst) hbase hfew hline hst rfl) hs).imp fun D σ H ⟨F, env, R0, p⟩ => ?_
  have p : PostS X.K g xo F0 H0 W D (ofR env (ownL env i) fun xs => ofR env (fa env) fun v => ofR env (asLst v.2) fun ys => if xs.length + ys.length ≤ sizeL then .nx (setS env i (.own, .lst (xs ++ ys))) else .no) := p
  cases q1 : ownL env i with
  | ex C fs => unfold ownL at q1; split at q1 <;> cases q1
  | no => rw [q1] at p; exact p.elim
  | ok xs =>
    rw [q1, ofR_ok] at p
    have q2 := ownL_inv q1
    obtain ⟨t, hs, hf, h0, _, vs, ho, rv⟩ := R0.slot i _ q2
    refine ⟨.ref t, hs, .inl ⟨rfl, _, SqL.of ho⟩, ?_⟩
    refine bindS R0 p fun mv v F1 H1 _ e1 x R1 p1 => ?_
    obtain ⟨F2, e2, a⟩ := x.pas e1
    have R2 := R0.ext' e2
    have z := a.rd
    rw [pas_snd] at z
    cases q3 : mv.2 with
    | lst ys =>
      rw [q3] at z p1
      rw [asLst_lst, ofR_ok] at p1
      obtain ⟨b, zs, rfl, hb, rz⟩ := z.lst R2.ext.sub
      obtain ⟨t', hs', _, _, _, vs1, ho1, rv1⟩ := R2.slot i _ q2
      rw [hs] at hs'; cases hs'
      split at p1
      · rename_i hz
        refine ⟨t, b, vs1, zs, rfl, rfl, ho1, hb, ?_, p1 σ F2 _ (R2.write q2 hs ⟨_, upd_same, rv1.append rz⟩)⟩
        rw [rv1.length, rz.length, sizeLine_eq]
        exact hz
      · exact p1.elim
    | _ => rw [q3] at p1; exact p1.elim

/-- a name's own thing goes to another name -/
theorem ss_mov {i j : Nat} {x y : Str} {px py : Pos} (hij : i ≠ j) (hn0 : i ≠ 0) (hN : X.N.Nodup) (hi : X.N[i]? = some x) (hx : Loc X.env.scope x) (hj : X.N[j]? = some y) (hv : Vis X.env.scope y) (hd : (y == ("__debug__" : Str)) = false) (hcd : (y == ("__classdict__" : Str)) = false)
    (hs : swapsWith (.Name y py) (some (.Name x px)) pos.line X.env = pure false) (hf : X.fn x = true ∨ X.env.scope.names.lookup x = some .local) :
    SS g xo F0 H0 W X (.Assign [.Name x px] (.Name y py) pos) (fun env => match env[j]? with | some (some (.own, d)) => .nx (setS (env.set j none) i (.own, d)) | _ => .no) := by
  refine (ps_set hN hi hx (pe_var hj hv hd hcd) hs hf).len.imp fun D σ H ⟨F, env, R0, p⟩ hl => ?_
  dsimp only at p
  split at p
  · rename_i d e
    obtain ⟨q, hs', hf', h0, _, ho⟩ := R0.slot j _ e
    have hil : i < env.length := by rw [← R0.len, hl]; exact (List.getElem?_eq_some_iff.mp hi).1
    have R1 := R0.forget1 j
    refine ⟨.ref q, hs', ?_⟩
    refine p _ F H (R1.set (by simpa using hil) ⟨q, List.getElem?_set_self (by rw [R0.len]; exact hil), hf', h0, fun z => absurd z hn0, ho⟩ fun d' p' k e' q1 hp hk h1 h2 => ?_)
    cases hp
    have hkj : k ≠ j := fun z => by
      subst z
      have hjl := (List.getElem?_eq_some_iff.mp e).1
      rw [List.getElem?_set_self hjl] at h1
      cases h1
    rw [List.getElem?_set_ne (Ne.symm hkj)] at h1
    exact R0.sep j k d e' q (Ne.symm hkj) e h1 hs' h2
  · exact p.elim

/-! ### small ones -/
theorem ss_ex (ha : SE g xo F0 H0 W X e fa) (hs : swapsWith e none pos.line X.env = pure false) : SS g xo F0 H0 W X (.Expr e pos) (fun env => ofR env (fa env) fun _ => .nx env) := by
  refine (ps_expr ha hs).imp fun D σ H ⟨F, env, R0, p⟩ => ?_
  exact bindS R0 p fun mv v F1 H1 _ e1 x R1 p1 => p1 σ F1 H1 R1
theorem ss_iff (hc : STs g xo F0 H0 W X c (fun env => (fa env).bind fun x => asB x.2)) (h1 : SSs g xo F0 H0 W X as f1) (h2 : SSs g xo F0 H0 W X bs f2) :
    SS g xo F0 H0 W X (.If c as bs pos) (fun env => ofR env ((fa env).bind fun x => asB x.2) fun r => if r then f1 env else f2 env) := by
  refine (ps_if hc h1 h2).imp fun D σ H ⟨F, env, R0, p⟩ => ?_
  refine bindST R0 p fun b F1 H1 e1 R1 p1 => ?_
  cases b with
  | true => exact ⟨F1, env, R1, p1⟩
  | false => exact ⟨F1, env, R1, p1⟩
theorem ss_ret (ha : SE g xo F0 H0 W X e fa) : SS g xo F0 H0 W X (.Return (some e) pos) (fun env => ofR env (fa env) fun v => if v.1 = .bor ∨ v.1 = .lnt then .no else .rt v) := by
  refine (ps_ret ha).imp fun D σ H ⟨F, env, R0, p⟩ => ?_
  refine bindS R0 p fun mv v F1 H1 _ e1 x R1 p1 => ?_
  obtain ⟨m, d⟩ := mv
  cases m with
  | frz => exact p1 v F1 H1 R1.ext x
  | own =>
    obtain ⟨q, y1, y2, y3, y4⟩ := x
    exact p1 v F1 H1 R1.ext ⟨q, y1, R0.ext.free y2, y3, y4⟩
  | bor => exact p1.elim
  | lnt => exact p1.elim
theorem ss_retV {i : Nat} {x : Str} {px : Pos} (hN : X.N[i]? = some x) (hv : Vis X.env.scope x) (hd : (x == ("__debug__" : Str)) = false) (hcd : (x == ("__classdict__" : Str)) = false) :
    SS g xo F0 H0 W X (.Return (some (.Name x px)) pos) (fun env => match env[i]? with | some (some (.own, d)) => .rt (.own, d) | _ => .no) := by
  refine (ps_ret (pe_var hN hv hd hcd)).imp fun D σ H ⟨F, env, R0, p⟩ => ?_
  dsimp only at p
  split at p
  · rename_i d hd
    obtain ⟨t, hs, hf, h0, _, ho⟩ := R0.slot i _ hd
    exact ⟨.ref t, hs, p _ F H R0.ext ⟨t, rfl, h0, hf, ho⟩⟩
  · exact p.elim
theorem ss_retN : SS g xo F0 H0 W X (.Return none pos) (fun _ => .rt (.frz, .non)) := by
  refine (ps_retN (X := X)).imp fun D σ H ⟨F, env, R0, p⟩ => ?_
  exact p .non F H R0.ext (show Rep X.K g F .non .non from by simp only [Rep])

/-! ### for -/
theorem post_forLoop {t : T} {K : PySem.W.Frag} {body : Env → Out} {fg : List Nat} {D : Ends} {tb : TS} {J : It} {ds : List Fx.D} {F1 : Hp} (F0sub : True)
    (hsrc : SrcOk K g F1 H0 J ds) (hlift : ∀ σ F H env, FRel K g xo F1 H0 F H σ env → FRel K g xo F0 H0 F H σ env) (hlr : ∀ F H, Ext F1 H0 F H → Ext F0 H0 F H) :
    ∀ (i m : Nat) (σ : L2.St) (H : Hp), (∃ F env, FRel K g xo F1 H0 F H σ env ∧ m + i = ds.length ∧ PostS K g xo F0 H0 W D (forLoop (fun d env => bindT t d env) body fg (ds.drop i) env)) →
      (J.stop i H ∧ D.nx σ H) ∨ (J.go i H ∧ ∃ N : L2.St → Hp → Prop, (∀ σ' H', N σ' H' → ∃ m', m' < m ∧ ∃ F env, FRel K g xo F1 H0 F H' σ' env ∧ m' + (i + 1) = ds.length ∧ PostS K g xo F0 H0 W D (forLoop (fun d env => bindT t d env) body fg (ds.drop (i + 1)) env)) ∧
        ∀ x H', J.yld i H x H' → ∃ F0, TGo K g xo F0 H0 t x σ H' fun σ2 H2 => ∃ F0, TSo K g xo F0 H0 W body { D with nx := N, ct := N, bk := D.nx } σ2 H2) := by
  intro i m σ H ⟨F, env, R0, hm, p⟩
  obtain ⟨hgo, hstop, hy⟩ := hsrc F H R0.ext.ff R0.ext.hh R0.ext.sub
  by_cases hi : i < ds.length
  · right
    refine ⟨hgo i hi, fun σ' H' => ∃ F env, FRel K g xo F1 H0 F H' σ' env ∧ PostS K g xo F0 H0 W D (forLoop (fun d env => bindT t d env) body fg (ds.drop (i + 1)) env), fun σ' H' ⟨F', env', R', p'⟩ => ⟨m - 1, by omega, F', env', R', by omega, p'⟩, fun x H' hx => ?_⟩
    obtain ⟨F2, e2, r⟩ := hy i ds[i] x H' (List.getElem?_eq_getElem hi) hx
    have R2 := R0.ext' e2
    rw [List.drop_eq_getElem_cons hi] at p
    simp only [forLoop] at p
    cases q : bindT t ds[i] env with
    | ex C fs => rw [q] at p; exact p.elim
    | no => rw [q] at p; exact p.elim
    | ok env1 =>
      simp only [q] at p
      refine ⟨F1, F2, env, _, env1, R2, r, q, fun σ2 R3 _ => ⟨F1, F2, env1, R3, ?_⟩⟩
      cases q2 : body env1 with
      | nx env2 => rw [q2] at p; exact fun σ F H R => ⟨F, _, R.forget fg, p⟩
      | ct env2 => rw [q2] at p; exact fun σ F H R => ⟨F, _, R.forget fg, p⟩
      | bk env2 => rw [q2] at p; exact fun σ F H R => p σ F H (hlift _ _ _ _ R)
      | rt mv => rw [q2] at p; exact fun v F H e h => p v F H (hlr _ _ e) h
      | ex C fs env2 => rw [q2] at p; exact fun σ dx F H R h => p σ dx F H (hlift _ _ _ _ R) h
      | no => rw [q2] at p; exact p.elim
  · left
    have hm0 : i = ds.length := by omega
    subst hm0
    rw [List.drop_length] at p
    exact ⟨hstop, p σ F H (hlift _ _ _ _ R0)⟩
theorem ss_for {t : T} {body : List Stmt} {fi : Env → Fx.R (List Fx.D)} {fb : Env → Out} {fg : List Nat} (hp : PassesOwn (model X.prog X.w) X.A X.env X.xe) (hc : X.calm = true) (hi : ∀ F0, PI X tg e (TIo X.K g xo F0 H0 W false fi)) (hg : ∀ F0, PG X tg (TGo X.K g xo F0 H0 t))
    (hb : ∀ F0, SSs g xo F0 H0 W X body fb) (hs : ∀ x, foldedSetIterable e X.env x = pure x) : SS g xo F0 H0 W X (.For tg e body [] pos) (fun env => ofR env (fi env) fun items => forLoop (fun d env => bindT t d env) fb fg items (wipeE env fg)) := by
  have hg' : PG X tg (fun v σ H Q => ∃ F0, TGo X.K g xo F0 H0 t v σ H Q) := ⟨fun pins s σ H v u Q I r ⟨F, q⟩ => (hg F).run pins s σ H v u Q I r q⟩
  have hb' : PSs X body (fun D σ H => ∃ F0, TSo X.K g xo F0 H0 W fb D σ H) := ⟨fun pins s σ H D I ⟨F, q⟩ => (hb F).run pins s σ H D I q⟩
  refine (ps_for hp hc (hi F0) hg' hb' hs).imp fun D σ H ⟨F, env, R0, p⟩ => ?_
  refine ⟨F, env, R0, ?_⟩
  have p : PostS X.K g xo F0 H0 W D (ofR env (fi env) fun items => forLoop (fun d env => bindT t d env) fb fg items (wipeE env fg)) := p
  cases q : fi env with
  | ex C fs => rw [q, ofR_ex] at p; exact postS_ex R0 p
  | no => rw [q] at p; exact p.elim
  | ok ds =>
    rw [q, ofR_ok] at p
    intro F1 H1 J e1 hsrc
    have R1 := R0.ext' e1
    have up : ∀ F H, Ext F1 H0 F H → Ext F0 H0 F H := fun F H e => ⟨e.hh, fun a o z => e.ff a o (R1.ext.ff a o z), fun a o z => by
      rcases e.new a o z with z | z
      · exact R1.ext.new a o z
      · exact .inr z, e.sub⟩
    refine ⟨fun i m σ H => ∃ F env, FRel X.K g xo F1 H0 F H σ env ∧ m + i = ds.length ∧ PostS X.K g xo F0 H0 W D (forLoop (fun d env => bindT t d env) fb fg (ds.drop i) env), ⟨ds.length, F1, wipeE env fg, ?_, rfl, p⟩, ?_⟩
    · exact FRel.forget (⟨⟨R1.ext.hh, fun _ _ z => z, fun _ _ z => .inl z, R1.ext.sub⟩, R1.len, R1.slot, R1.sep⟩ : FRel X.K g xo F1 H0 F1 H1 σ env) fg
    · exact post_forLoop (tb := tNext) trivial hsrc (fun σ F H env R => ⟨up _ _ R.ext, R.len, R.slot, R.sep⟩) up

/-! ### raise -/
/-- an own exception, made of its fields -/
def tMkF (C : Addr) (ns : List Str) (ta : TA) : L2.St → Hp → XK → Prop := fun σ H Q => ta σ H fun vs H1 => vs.length = ns.length ∧ vs.length ≤ 1000 ∧ ∀ d, H1 d = none → Q (.ref C) (some d) (upd H1 d (.xd (ns.zip vs)))
theorem ss_rse {C : Nat} (hc : X.calm = true) (tk : Takes X W) (hf : (g.xf C).length ≤ 1000) (he : PMk X e (tMkF (g.xa C) (g.xf C) (TAo X.K g xo F0 H0 W fs))) (hn : ∀ env vs, fs env = .ok vs → vs.length = (g.xf C).length) (h0 : (g.xf C) ≠ []) :
    SS g xo F0 H0 W X (.Raise (some e) none pos) (fun env => ofR env ((fs env).bind fun vs => mapR esc vs) fun ds => .ex C ds env) := by
  refine (ps_raise hc tk he).imp fun D σ H ⟨F, env, R0, p⟩ => ?_
  refine ⟨F, env, R0, ?_⟩
  have p : PostS X.K g xo F0 H0 W D (ofR env ((fs env).bind fun vs => mapR esc vs) fun ds => .ex C ds env) := p
  cases q : fs env with
  | ex C' fs' => rw [q, Fx.R.bind_ex, ofR_ex] at p; exact postS_ex R0 p
  | no => rw [q] at p; exact p.elim
  | ok mvs =>
    rw [q, Fx.R.bind_ok] at p
    intro vs F1 H1 e1 ar
    have hl := hn env mvs q
    have hl2 := ar.len
    cases q2 : mapR esc mvs with
    | ex C' fs' => exact absurd q2 mapR_esc_ex
    | no => rw [q2] at p; exact p.elim
    | ok ds =>
      rw [q2, ofR_ok] at p
      refine ⟨by rw [hl2, hl], by rw [hl2, hl]; exact hf, fun d hd => ?_⟩
      have R1 := R0.ext' e1
      have r := mapR_esc ar q2
      have e2 := (Ext.refl R1.ext.sub).laid (o := .xd ((g.xf C).zip vs)) hd
      refine p σ (some d) F1 _ (R1.ext' e2) ?_
      have hr := r.length
      cases ds with
      | nil =>
        exfalso
        apply h0
        apply List.length_eq_zero_iff.mp
        rw [← hl, ← hl2, hr]; rfl
      | cons d0 ds =>
        refine ⟨d, vs, rfl, R1.ext.free hd, ?_, upd_same, r⟩
        cases z : F1 d with
        | none => rfl
        | some u => rw [R1.ext.sub _ _ z] at hd; cases hd
/-- an own error without fields -/
theorem ss_rsT {C : Nat} (hc : X.calm = true) (tk : Takes X W) (he : PMk X e (fun _ H Q => Q (.ref (g.xa C)) none H)) : SS g xo F0 H0 W X (.Raise (some e) none pos) (fun env => .ex C [] env) := by
  refine (ps_raise hc tk he).imp fun D σ H ⟨F, env, R0, p⟩ => ?_
  exact p σ none F H R0 rfl
/-! ### while -/
theorem whileN_mono {c : Env → Fx.R Bool} {body : Env → Out} {fg : List Nat} : ∀ {n : Nat} {env : Env} {o : Out}, whileN c body fg n env = some o → whileN c body fg (n + 1) env = some o
  | 0, env, o, h => by simp [whileN] at h
  | n + 1, env, o, h => by
    rw [whileN] at h ⊢
    cases q : c env with
    | ok b =>
      rw [q] at h
      cases b with
      | true =>
        simp only at h ⊢
        cases q2 : body env with
        | nx env2 => rw [q2] at h; exact whileN_mono h
        | ct env2 => rw [q2] at h; exact whileN_mono h
        | bk env2 => rw [q2] at h; exact h
        | rt v => rw [q2] at h; exact h
        | ex C fs env2 => rw [q2] at h; exact h
        | no => rw [q2] at h; exact h
      | false => exact h
    | ex C fs => rw [q] at h; exact h
    | no => rw [q] at h; exact h
theorem whileN_le {c : Env → Fx.R Bool} {body : Env → Out} {fg : List Nat} {n m : Nat} {env : Env} {o : Out} (h : whileN c body fg n env = some o) (hm : n ≤ m) : whileN c body fg m env = some o := by
  induction m with
  | zero => obtain rfl : n = 0 := by omega
            exact h
  | succ m ih =>
    by_cases e : n = m + 1
    · subst e; exact h
    · exact whileN_mono (ih (by omega))
/-- what a while comes to, by a number of turns -/
theorem whileLoop_of {c : Env → Fx.R Bool} {body : Env → Out} {fg : List Nat} {n : Nat} {env : Env} {o : Out} (h : whileN c body fg n env = some o) : whileLoop c body fg env = o := by
  have hx : ∃ n o, whileN c body fg n env = some o := ⟨n, o, h⟩
  unfold whileLoop
  rw [dif_pos hx]
  have q := Classical.choose_spec (Classical.choose_spec hx)
  have a := whileN_le q (Nat.le_max_left (Classical.choose hx) n)
  have b := whileN_le h (Nat.le_max_right (Classical.choose hx) n)
  rw [a] at b
  exact Option.some.inj b
theorem whileLoop_some {c : Env → Fx.R Bool} {body : Env → Out} {fg : List Nat} {env : Env} (h : whileLoop c body fg env ≠ .no) : ∃ n, whileN c body fg n env = some (whileLoop c body fg env) := by
  by_cases hx : ∃ n o, whileN c body fg n env = some o
  · obtain ⟨n, o, e⟩ := hx
    exact ⟨n, by rw [e, whileLoop_of e]⟩
  · exact absurd (by unfold whileLoop; rw [dif_neg hx]) h
theorem ss_whl {body : List Stmt} {fc : Env → Fx.R Bool} {fb : Env → Out} {fg : List Nat} (hp : PassesOwn (model X.prog X.w) X.A X.env X.xe) (hc : STs g xo F0 H0 W X c fc) (hb : SSs g xo F0 H0 W X body fb) :
    SS g xo F0 H0 W X (.While c body [] pos) (fun env => whileLoop fc fb fg (wipeE env fg)) := by
  refine (ps_while hp hc hb).imp fun D σ H ⟨F, env, R0, p⟩ => ?_
  have p : PostS X.K g xo F0 H0 W D (whileLoop fc fb fg (wipeE env fg)) := p
  obtain ⟨n, hn⟩ := whileLoop_some (c := fc) (body := fb) (fg := fg) (env := wipeE env fg) (fun e => by rw [e] at p; exact p)
  refine ⟨fun m σ H => ∃ F env o, FRel X.K g xo F0 H0 F H σ env ∧ whileN fc fb fg m env = some o ∧ PostS X.K g xo F0 H0 W D o, ⟨n, F, _, _, R0.forget fg, hn, p⟩, ?_⟩
  intro m σ H ⟨F, env, o, R0, h, p⟩
  cases m with
  | zero => simp [whileN] at h
  | succ m =>
    rw [whileN] at h
    refine ⟨F, env, R0, ?_⟩
    cases q : fc env with
    | ex C fs => rw [q] at h; cases h; exact postS_ex R0 p
    | no => rw [q] at h; cases h; exact p.elim
    | ok b =>
      rw [q] at h
      cases b with
      | false =>
        cases h
        intro F' H' e'
        rw [if_neg Bool.false_ne_true]
        exact p σ F' H' (R0.ext' e')
      | true =>
        simp only at h
        intro F' H' e'
        rw [if_pos rfl]
        refine ⟨fun σ' H' => ∃ F env2, FRel X.K g xo F0 H0 F H' σ' env2 ∧ whileN fc fb fg m (wipeE env2 fg) = some o, fun σ' H' ⟨F2, env2, R2, h2⟩ => ⟨m, Nat.lt_succ_self m, F2, _, o, R2.forget fg, h2, p⟩, F', env, R0.ext' e', ?_⟩
        cases q2 : fb env with
        | nx env2 => rw [q2] at h; exact fun σ F H R => ⟨F, env2, R, h⟩
        | ct env2 => rw [q2] at h; exact fun σ F H R => ⟨F, env2, R, h⟩
        | bk env2 => rw [q2] at h; cases h; exact p
        | rt v => rw [q2] at h; cases h; exact p
        | ex C fs env2 => rw [q2] at h; cases h; exact p
        | no => rw [q2] at h; cases h; exact p.elim
end
end Fx

/-! List comprehensions. -/
namespace Fx
open PySem PySem.Spec PyProof.Rows L2
def noW : WX := fun _ _ _ _ => False
theorem wipe_wipe (σ : L2.St) (vs : List Nat) : L2.wipe (L2.wipe σ vs) vs = L2.wipe σ vs := by
  have key : ∀ (τ : L2.St) (vs : List Nat) (j : Nat), (L2.wipe τ vs)[j]? = if j ∈ vs then (if j < τ.length then some none else none) else τ[j]? := by
    intro τ vs
    induction vs with
    | nil => intro j; simp [L2.wipe]
    | cons v vs ih =>
      intro j
      unfold L2.wipe
      by_cases hj : v = j
      · subst hj
        simp only [List.mem_cons, true_or, if_true]
        by_cases hl : v < τ.length
        · rw [List.getElem?_set_self (by rw [wipe_length]; exact hl), if_pos hl]
        · rw [List.getElem?_eq_none (by rw [List.length_set, wipe_length]; omega), if_neg hl]
      · rw [List.getElem?_set_ne hj, ih]
        have : (j ∈ v :: vs) ↔ j ∈ vs := by simp [Ne.symm hj]
        simp only [this]
  apply List.ext_getElem?
  intro j
  rw [key, wipe_length]
  by_cases hj : j ∈ vs
  · rw [if_pos hj, key, if_pos hj]
  · rw [if_neg hj]
theorem noEx_inv {α : Type} {r : Fx.R α} {a : α} (h : noEx r = .ok a) : r = .ok a := by
  cases r with
  | ok b => exact h
  | ex C fs => cases h
  | no => cases h
theorem lcLoop_inv {bindf : Fx.D → Fx.R Env} {test : Env → Fx.R Bool} {elt : Env → Fx.R Fx.D} {d : Fx.D} {r ds : List Fx.D} (h : lcLoop bindf test elt (d :: r) = .ok ds) :
    ∃ env b, bindf d = .ok env ∧ test env = .ok b ∧ ((b = true ∧ ∃ y ys, elt env = .ok y ∧ lcLoop bindf test elt r = .ok ys ∧ ds = y :: ys) ∨ (b = false ∧ lcLoop bindf test elt r = .ok ds)) := by
  simp only [lcLoop] at h
  cases q1 : bindf d with
  | ok env =>
    rw [q1, Fx.R.bind_ok] at h
    cases q2 : test env with
    | ok b =>
      rw [q2, Fx.R.bind_ok] at h
      refine ⟨env, b, rfl, q2, ?_⟩
      cases b with
      | true =>
        left
        simp only [if_true] at h
        cases q3 : elt env with
        | ok y =>
          rw [q3, Fx.R.bind_ok] at h
          cases q4 : lcLoop bindf test elt r with
          | ok ys => rw [q4, Fx.R.bind_ok] at h; cases h; exact ⟨rfl, y, ys, rfl, rfl, rfl⟩
          | ex C fs => rw [q4] at h; cases h
          | no => rw [q4] at h; cases h
        | ex C fs => rw [q3] at h; cases h
        | no => rw [q3] at h; cases h
      | false => right; simp only [Bool.false_eq_true, if_false] at h; exact ⟨rfl, h⟩
    | ex C fs => rw [q2] at h; cases h
    | no => rw [q2] at h; cases h
  | ex C fs => rw [q1] at h; cases h
  | no => rw [q1] at h; cases h
theorem esc_inv {r : Fx.R Val} {y : Fx.D} (h : noEx (r.bind esc) = .ok y) : ∃ mv, r = .ok mv ∧ esc mv = .ok y := by
  have h := noEx_inv h
  cases r with
  | ok mv => exact ⟨mv, rfl, h⟩
  | ex C fs => cases h
  | no => cases h
theorem esc_pas {mv : Val} {y : Fx.D} (h : esc mv = .ok y) : esc (Fx.pas mv) = .ok y := by
  obtain ⟨m, d⟩ := mv
  cases m <;> first | exact h | cases h
mutual
theorem bindT_ex : ∀ {t : T} {d : Fx.D} {env : Env} {C : Nat} {fs : List Fx.D}, bindT t d env ≠ .ex C fs
  | .nm i, d, env, C, fs, h => by simp only [bindT] at h; cases h
  | .tp ts, d, env, C, fs, h => by
    simp only [bindT] at h
    split at h
    · exact bindTs_ex h
    · cases h
theorem bindTs_ex : ∀ {ts : List T} {ds : List Fx.D} {env : Env} {C : Nat} {fs : List Fx.D}, bindTs ts ds env ≠ .ex C fs
  | [], [], _, _, _, h => by simp only [bindTs] at h; cases h
  | [], _ :: _, _, _, _, h => by simp only [bindTs] at h; cases h
  | _ :: _, [], _, _, _, h => by simp only [bindTs] at h; cases h
  | t :: ts, d :: ds, env, C, fs, h => by
    simp only [bindTs] at h
    cases q : bindT t d env with
    | ok env1 => rw [q, Fx.R.bind_ok] at h; exact bindTs_ex h
    | ex C' fs' => exact bindT_ex q
    | no => rw [q] at h; cases h
end
/-- what a comprehension gives -/
def lcF (fi : Env → Fx.R (List Fx.D)) (t : T) (own : List Nat) (ft : Env → Fx.R Bool) (fe : Env → Fx.R Val) : Env → Fx.R Val := fun env => (fi env).bind fun items =>
  (lcLoop (fun d => bindT t d (wipeE env own)) (fun e => noEx (ft e)) (fun e => noEx ((fe e).bind fun v => esc v)) items).bind fun ds => if ds.length ≤ sizeL then .ok (.own, .lst ds) else .no
section
variable {g : Tab} {xo : XO} {F0 H0 : Hp} {W : WX} {K : PySem.W.Frag}
theorem tlc_ok {t : T} {own : List Nat} {fi : Env → Fx.R (List Fx.D)} {ft : Env → Fx.R Bool} {fe : Env → Fx.R Val} (hsub : ∀ i ∈ t.slots, i ∈ own) (σ : L2.St) (H : Hp) (Q : VK) (h : TEo K g xo F0 H0 W (lcF fi t own ft fe) σ H Q) :
    tLc (TIo K g xo F0 H0 W true fi) (fun v σ H Q => ∃ F0, TGo K g xo F0 H0 t v σ H Q) (fun σ H Q => ∃ F0, TTo K g xo F0 H0 noW ft σ H Q) (fun σ H Q => ∃ F0, TEo K g xo F0 H0 noW fe σ H Q) own σ H Q := by
  obtain ⟨F, env, R0, p⟩ := h
  refine ⟨F, env, R0, ?_⟩
  unfold lcF at p
  cases q : fi env with
  | ex C fs => rw [q] at p; exact p
  | no => rw [q] at p; exact p.elim
  | ok items =>
    rw [q, Fx.R.bind_ok] at p
    intro F1 H1 J e1 hsrc D hD
    have R1 := R0.ext' e1
    cases q2 : lcLoop (fun d => bindT t d (wipeE env own)) (fun e => noEx (ft e)) (fun e => noEx ((fe e).bind fun v => esc v)) items with
    | ex C fs =>
      -- no exception leaves
      exfalso
      have : ∀ items, lcLoop (fun d => bindT t d (wipeE env own)) (fun e => noEx (ft e)) (fun e => noEx ((fe e).bind fun v => esc v)) items ≠ .ex C fs := by
        intro items
        have nx : ∀ {α : Type} (r : Fx.R α) (C : Nat) (fs : List Fx.D), noEx r ≠ .ex C fs := fun r C fs h => by cases r <;> cases h
        induction items with
        | nil => intro h; cases h
        | cons d r ih =>
          intro h
          simp only [lcLoop] at h
          cases q1 : bindT t d (wipeE env own) with
          | ok env1 =>
            rw [q1, Fx.R.bind_ok] at h
            cases q2 : noEx (ft env1) with
            | ok b =>
              rw [q2, Fx.R.bind_ok] at h
              cases b with
              | true =>
                simp only [if_true] at h
                cases q3 : noEx ((fe env1).bind fun v => esc v) with
                | ok y =>
                  rw [q3, Fx.R.bind_ok] at h
                  cases q4 : lcLoop (fun d => bindT t d (wipeE env own)) (fun e => noEx (ft e)) (fun e => noEx ((fe e).bind fun v => esc v)) r with
                  | ok ys => rw [q4] at h; cases h
                  | ex C fs => rw [q4] at h; cases h; exact ih q4
                  | no => rw [q4] at h; cases h
                | ex C fs => exact nx _ _ _ q3
                | no => rw [q3] at h; cases h
              | false => simp only [Bool.false_eq_true, if_false] at h; exact ih h
            | ex C fs => exact nx _ _ _ q2
            | no => rw [q2] at h; cases h
          | ex C' fs' => exact bindT_ex q1
          | no => rw [q1] at h; cases h
      exact this _ q2
    | no => rw [q2] at p; exact p.elim
    | ok ds =>
      rw [q2, Fx.R.bind_ok] at p
      split at p
      · rename_i hz
        have hF1D : F1 D = none := by
          cases z : F1 D with
          | none => rfl
          | some u => rw [e1.sub _ _ z] at hD; cases hD
        refine ⟨fun i m H => ∃ F dn acc rest, Ext F1 H1 F H ∧ H D = some (.lst acc) ∧ F D = none ∧ RepL K g F dn acc ∧ lcLoop (fun d => bindT t d (wipeE env own)) (fun e => noEx (ft e)) (fun e => noEx ((fe e).bind fun v => esc v)) (items.drop i) = .ok rest ∧ dn ++ rest = ds ∧ m + i = items.length,
          ⟨items.length, F1, [], [], ds, (Ext.refl e1.sub).laid hD, upd_same, hF1D, .nil, q2, rfl, rfl⟩, fun i m H2 ⟨F2, dn, acc, rest, e2, hd2, hf2, r2, q3, hds, hm⟩ => ?_⟩
        obtain ⟨hgo, hstop, hy⟩ := hsrc F2 H2 e2.ff e2.hh e2.sub
        by_cases hi : i < items.length
        · right
          rw [List.drop_eq_getElem_cons hi] at q3
          obtain ⟨env1, b, w1, w2, w3⟩ := lcLoop_inv q3
          refine ⟨hgo i hi, fun H' => ∃ F dn acc rest, Ext F1 H1 F H' ∧ H' D = some (.lst acc) ∧ F D = none ∧ RepL K g F dn acc ∧ lcLoop (fun d => bindT t d (wipeE env own)) (fun e => noEx (ft e)) (fun e => noEx ((fe e).bind fun v => esc v)) (items.drop (i + 1)) = .ok rest ∧ dn ++ rest = ds,
            fun H' ⟨F', dn', acc', rest', a1, a2, a3, a4, a5, a6⟩ => ⟨m - 1, by omega, F', dn', acc', rest', a1, a2, a3, a4, a5, a6, by omega⟩, fun x H3 hx => ?_⟩
          obtain ⟨F3, e3, rx⟩ := hy i items[i] x H3 (List.getElem?_eq_getElem hi) hx
          have e13 := e2.trans e3
          have R3 := (R1.ext' e13).wipe own
          refine ⟨F0, F3, _, items[i], env1, R3, rx, w1, fun σ4 R4 so => ⟨?_, ?_⟩⟩
          · rw [so.wipe hsub]; exact wipe_wipe σ own
          · refine ⟨F0, F3, env1, R4, ?_⟩
            rw [noEx_inv w2]
            intro F5 H5 e5
            have e25 := e3.trans e5
            rcases w3 with ⟨rfl, y, ys, g1, g2, g3⟩ | ⟨rfl, g2⟩
            · simp only [if_true]
              obtain ⟨mv, k1, k2⟩ := esc_inv g1
              refine ⟨F0, F5, env1, R4.ext' e5, ?_⟩
              rw [k1]
              intro v F6 H6 e6 hv
              obtain ⟨F7, e7, a7⟩ := hv.pas e6
              have e27 := e25.trans e7
              have ry : Rep K g F7 y v := a7.esc (esc_pas k2)
              have hl : acc.length = dn.length := r2.length
              refine ⟨acc, e27.hh _ _ hd2, ?_, F7, dn ++ [y], acc ++ [v], ys, ?_, upd_same, e27.unf hd2 hf2, ?_, g2, ?_⟩
              · rw [sizeLine_eq, hl]
                have : ds.length ≤ 16777216 := hz
                rw [← hds, g3, List.length_append, List.length_cons] at this
                omega
              · exact (e2.trans e27).write hD (e27.unf hd2 hf2)
              · exact (RepL.mono e27.ff _ _ r2).append (.cons ry .nil)
              · rw [← hds, g3]; simp
            · simp only [Bool.false_eq_true, if_false]
              exact ⟨F5, dn, acc, rest, e2.trans e25, e25.hh _ _ hd2, e25.unf hd2 hf2, RepL.mono e25.ff _ _ r2, g2, hds⟩
        · left
          have hi0 : i = items.length := by omega
          subst hi0
          rw [List.drop_length] at q3
          cases q3
          rw [List.append_nil] at hds
          subst hds
          exact ⟨hstop, p _ F2 H2 (e1.trans e2) ⟨D, rfl, e1.free hD, hf2, acc, hd2, r2⟩⟩
      · exact p.elim
end
section
variable {g : Tab} {xo : XO} {F0 H0 : Hp} {W : WX} {X : Cx} {elt tg iter : Expr} {ifs : List Expr} {pos spos py : Pos} {fi : Env → Fx.R (List Fx.D)} {ft : Env → Fx.R Bool} {fe : Env → Fx.R Val}
theorem se_lc {t : T} {scope : Scope} {own : List (Str × Nat)} (hc : X.calm = true) (hN : X.N.Nodup) (ok : BlkOk X.N X.env.scope scope own) (hi : PI X tg iter (TIo X.K g xo F0 H0 W true fi))
    (hg : ∀ (s : Shared) (H : Hp) (C : Addr) (cl : List (Str × Addr)) (fp : List Addr) F0, PG (X.blk s H scope (compEnvC scope cl C X.env) fp) tg (TGo X.K g xo F0 H0 t))
    (ht : ∀ (s : Shared) (H : Hp) (C : Addr) (cl : List (Str × Addr)) (fp : List Addr) F0, PTs (X.blk s H scope (compEnvC scope cl C X.env) fp) ifs (TTo X.K g xo F0 H0 noW ft))
    (he : ∀ (s : Shared) (H : Hp) (C : Addr) (cl : List (Str × Addr)) (fp : List Addr) F0, PE (X.blk s H scope (compEnvC scope cl C X.env) fp) elt (TEo X.K g xo F0 H0 noW fe)) (hs : ∀ x, foldedSetIterable iter X.env x = pure x) (hsub : ∀ i ∈ t.slots, i ∈ own.map (·.2)) :
    SE g xo F0 H0 W X (.ListComp elt [⟨tg, iter, ifs, 0⟩] scope pos) (lcF fi t (own.map (·.2)) ft fe) :=
  (pe_lc hc hN hi ok (fun s H C cl fp => ⟨fun pins s' σ H v u Q I r ⟨F, q⟩ => (hg s _ C cl fp F).run pins s' σ H v u Q I r q⟩) (fun s H C cl fp => ⟨fun pins s' σ H Q I ⟨F, q⟩ => (ht s _ C cl fp F).run pins s' σ H Q I q⟩)
    (fun s H C cl fp => ⟨fun pins s' σ H Q I ⟨F, q⟩ => (he s _ C cl fp F).run pins s' σ H Q I q⟩) hs).imp fun σ H Q h => tlc_ok hsub σ H Q h
theorem ss_setLc {t : T} {scope : Scope} {own : List (Str × Nat)} {i : Nat} {y : Str} {b : Bool} (hn0 : b = true ∨ i ≠ 0) (hc : X.calm = true) (hN : X.N.Nodup) (hy : X.N[i]? = some y) (hyl : X.env.scope.names.lookup y = some .local)
    (hsw : swapsWith (.ListComp elt [⟨tg, iter, ifs, 0⟩] scope pos) (some (.Name y py)) spos.line X.env = pure true) (ok : BlkOk X.N X.env.scope scope own) (hi : PI X tg iter (TIo X.K g xo F0 H0 W true fi))
    (hg : ∀ (s : Shared) (H : Hp) (C : Addr) (cl : List (Str × Addr)) (fp : List Addr) F0, PG (X.blk s H scope (compEnvC scope cl C X.env) fp) tg (TGo X.K g xo F0 H0 t))
    (ht : ∀ (s : Shared) (H : Hp) (C : Addr) (cl : List (Str × Addr)) (fp : List Addr) F0, PTs (X.blk s H scope (compEnvC scope cl C X.env) fp) ifs (TTo X.K g xo F0 H0 noW ft))
    (he : ∀ (s : Shared) (H : Hp) (C : Addr) (cl : List (Str × Addr)) (fp : List Addr) F0, PE (X.blk s H scope (compEnvC scope cl C X.env) fp) elt (TEo X.K g xo F0 H0 noW fe)) (hs : ∀ x, foldedSetIterable iter X.env x = pure x) (hsub : ∀ i ∈ t.slots, i ∈ own.map (·.2)) :
    SS g xo F0 H0 W X (.Assign [.Name y py] (.ListComp elt [⟨tg, iter, ifs, 0⟩] scope pos) spos) (fun env => ofR env ((lcF fi t (own.map (·.2)) ft fe env).bind (keep b)) fun v => .nx (setS env i v)) :=
  (ps_setLc hc hN hy hyl hsw hi ok (fun s H C cl fp => ⟨fun pins s' σ H v u Q I r ⟨F, q⟩ => (hg s _ C cl fp F).run pins s' σ H v u Q I r q⟩) (fun s H C cl fp => ⟨fun pins s' σ H Q I ⟨F, q⟩ => (ht s _ C cl fp F).run pins s' σ H Q I q⟩)
    (fun s H C cl fp => ⟨fun pins s' σ H Q I ⟨F, q⟩ => (he s _ C cl fp F).run pins s' σ H Q I q⟩) hs).len.imp fun D σ H h hl => tlc_ok hsub σ H _ (st_set (List.getElem?_eq_some_iff.mp hy).1 hn0 D σ H h hl)
theorem pts_nil' : PTs X [] (TTo X.K g xo F0 H0 noW (fun _ => .ok true)) := ⟨fun pins s σ H Q I ⟨F, env, R0, p⟩ => (pts_nil (X := X)).run pins s σ H Q I (p F H (Ext.refl R0.ext.sub))⟩
end
end Fx

/-! Dict comprehensions with tuple keys. The walk through the block goes as HandS.DictComp's does for keys that are ints or texts (its compLoop_anyD is used); the dict, its rows and the step that stores are this layer's own. -/
namespace Fx
open PySem PySem.Spec PyProof.Rows L2
def DSet (K : PySem.W.Frag) (gt : Tab) (D : Addr) (y z : V) (H : Hp) (Nx : Hp → Prop) : Prop := ∃ F ep ks ds kvs vvs k d, (∀ a o, F a = some o → H a = some o) ∧ DHas K gt F H D ep ks ds kvs vvs ∧ Rep K gt F k y ∧ k.keyOk = true ∧ Rep K gt F d z ∧ ks.length < sizeLine ∧
  ∀ ep' kvs' vvs', DHas K gt F (upd H D (dictHO D ep' (dEs gt.wd (dPut ks ds k d).1 kvs' vvs'))) D ep' (dPut ks ds k d).1 (dPut ks ds k d).2 kvs' vvs' → Nx (upd H D (dictHO D ep' (dEs gt.wd (dPut ks ds k d).1 kvs' vvs')))
def tDcD (K : PySem.W.Frag) (gt : Tab) (wi : TI) (g : TG) (tk tv : TE) (vs : List Nat) : TE := fun σ H Q => wi σ H fun J H1 => ∀ D, H1 D = none → ∃ W : Nat → Nat → Hp → Prop, (∃ m, W 0 m (upd H1 D (dictHO D 0 []))) ∧ ∀ i m H, W i m H →
  (J.stop i H ∧ Q (.ref D) H) ∨ (J.go i H ∧ ∃ Nx : Hp → Prop, (∀ H', Nx H' → ∃ m', m' < m ∧ W (i + 1) m' H') ∧ ∀ x H', J.yld i H x H' → g x (L2.wipe σ vs) H' fun σ2 H2 => L2.wipe σ2 vs = L2.wipe σ vs ∧ tk σ2 H2 fun y H4 => tv σ2 H4 fun z H5 => DSet K gt D y z H5 Nx)
section
variable {X : Cx} {gt : Tab}
theorem dcD_core {pins : List (Addr × Obj)} {s : Shared} {σ : L2.St} {H : Hp} {Q : VK} {kx vx tg iter : Expr} {scope : Scope} {own : List (Str × Nat)} {pos pos' : Pos} {wi : TI} {g : TG} {tk tv : TE} {use : Option (Value → Sem Unit)} {Qf : Value → Shared → Prop}
    (hw : gt.wd = X.w) (hu : X.A.units + 65 < cLine) (hc : X.calm = true) (hN : X.N.Nodup) (I : L2.Inv X pins σ H s) (hi : PI X tg iter wi) (ok : BlkOk X.N X.env.scope scope own)
    (hg : ∀ (s : Shared) (H : Hp) (C : Addr) (cl : List (Str × Addr)) (fp : List Addr), PG (X.blk s H scope (compEnvC scope cl C X.env) fp) tg g)
    (hk : ∀ (s : Shared) (H : Hp) (C : Addr) (cl : List (Str × Addr)) (fp : List Addr), PE (X.blk s H scope (compEnvC scope cl C X.env) fp) kx tk)
    (he : ∀ (s : Shared) (H : Hp) (C : Addr) (cl : List (Str × Addr)) (fp : List Addr), PE (X.blk s H scope (compEnvC scope cl C X.env) fp) vx tv) (hs : ∀ x, foldedSetIterable iter X.env x = pure x)
    (h : tDcD X.K gt wi g tk tv (own.map (·.2)) σ H Q)
    (back : ∀ (D C : Addr) (s' : Shared) (m : Str → Option Value) (H' : Hp), L2.Inv X pins σ H' s' → Q (.ref D) H' → s'.heap.Ns C m → FpOk X pins H' C → compPost (model X.prog X.w) X.A X.xe use Qf (.ref D) C (.ok .next) s') :
    wpAny (model X.prog X.w) X.A (comprehension (.DictComp kx vx [⟨tg, iter, [], 0⟩] scope pos) scope X.env pos' newDict false (PySem.eval iter X.env) use) Qf X.xe s := by
  have hfree : ∀ y ∈ scope.names, y.2 = .free → ∃ c, X.env.cells.lookup y.1 = some c := fun y hy e => by
    rcases ok.free y hy e with k | k
    · exact I.ok.has _ (.inl k)
    · exact I.ok.has _ (.inr k)
  refine wpAny_comprehension_free (use := use) rfl hs (closure_ok hfree) ok.kind (fun y hy e => by rw [ok.uniq y hy, e])
    (thn (hi.run pins s σ H _ I h) fun xv s1 hx => thn hx fun itv s2 h2 => ?_)
  obtain ⟨it, fp, tn, J, H2, e, I2, T, st2, f2, q⟩ := h2
  subst e
  refine wpAny_newObj_type (newEnv_comp ?_)
  generalize hD : s2.heap.objs.size = D
  obtain ⟨W, ⟨m0, w0⟩, turn⟩ := q D (I2.hok.fresh (Nat.le_of_eq hD))
  generalize hs3 : ({ s2 with heap := s2.heap.push { cls := .type "dict", data := .dict #[] } } : Shared) = s3
  have h3 : s3.heap = s2.heap.push { cls := .type "dict", data := .dict #[] } := by rw [← hs3]
  have I3 : L2.Inv X pins σ (upd H2 D (dictHO D 0 [])) s3 := by
    have z := dict_new (P := X.prog) (w := X.w) (H := upd H2 D (dictHO D 0 [])) s2.heap I2.big
    rw [hD] at z
    rw [← hs3]
    refine I2.laid (t' := s2.toks) (fun b o e => Heap.get?_push_of_some _ e) (Nat.le_of_eq hD) ?_
    refine dict_ok ?_
    have z2 : DictAt (s2.heap.push { cls := .type "dict", data := .dict #[] }) D 0 [] := ⟨by rw [beq_eq_false_iff_ne, ← hD]; exact Nat.ne_of_gt I2.big, Nat.zero_le _, _, #[], by rw [← hD]; exact Heap.get?_push_size _ rfl, ⟨rfl, rfl, rfl⟩, rfl, .nil⟩
    exact z2
  have f3 : ∀ b ∈ fp, FpOk X pins (upd H2 D (dictHO D 0 [])) b ∧ b < s3.heap.objs.size := fun b hb => by
    obtain ⟨o, e, _⟩ := T.obj _ _ st2 b hb
    have hlt := Heap.lt_size e
    refine ⟨⟨?_, (f2 b hb).2⟩, by rw [h3, Heap.size_push]; exact Nat.lt_succ_of_lt hlt⟩
    rw [upd_ne (by rw [← hD]; exact Nat.ne_of_lt hlt)]
    exact (f2 b hb).1
  have st3 : tn 0 s3.heap := T.keep _ _ _ st2 fun b _ o e => by rw [h3]; exact Heap.get?_push_of_some _ e
  have I4 := block_start I3 ok hN f3
  have pg := hg s3 (upd H2 D (dictHO D 0 [])) s3.heap.objs.size (cellsFrom (s3.heap.objs.size + 1) scope.names (cloFrom X.env.cells scope.names [])) fp
  have pk := hk s3 (upd H2 D (dictHO D 0 [])) s3.heap.objs.size (cellsFrom (s3.heap.objs.size + 1) scope.names (cloFrom X.env.cells scope.names [])) fp
  have pe := he s3 (upd H2 D (dictHO D 0 [])) s3.heap.objs.size (cellsFrom (s3.heap.objs.size + 1) scope.names (cloFrom X.env.cells scope.names [])) fp
  show codeAny _ _ (.compStart (.DictComp kx vx [⟨tg, iter, [], 0⟩] scope pos) 0 (.ref it) (.ref D) (compEnvC scope (cellsFrom (s3.heap.objs.size + 1) scope.names (cloFrom X.env.cells scope.names [])) s3.heap.objs.size X.env)) (compPost (model X.prog X.w) X.A X.xe use Qf (.ref D) s3.heap.objs.size) { s3 with heap := pushCells (s3.heap.push { cls := .type "dict", data := .dict #[] }) scope.names }
  have nfp : ∀ b ∈ fp, (upd H2 D (dictHO D 0 [])) b = none := fun b hb => (f3 b hb).1.1
  generalize hce : compEnvC scope (cellsFrom (s3.heap.objs.size + 1) scope.names (cloFrom X.env.cells scope.names [])) s3.heap.objs.size X.env = ce at I4 pg pk pe ⊢
  have cL : ce.locals = s3.heap.objs.size := by subst hce; rfl
  generalize hH3 : upd H2 D (dictHO D 0 []) = H3 at I3 I4 pg pk pe w0 nfp f3
  generalize hs4 : ({ s3 with heap := pushCells (s3.heap.push { cls := .type "dict", data := .dict #[] }) scope.names } : Shared) = s4 at I4 ⊢
  have st4 : tn 0 s4.heap := T.keep _ _ _ st3 fun b _ o e => by rw [← hs4]; exact pushCells_keeps _ _ _ _ (Heap.get?_push_of_some _ e)
  have stat : ∀ {σ' : L2.St} {H' : Hp} {s' : Shared}, L2.Inv (X.blk s3 H3 scope ce fp) [] σ' H' s' → (∀ b ∈ fp, H' b = none) → ∀ b ∈ fp, FpOk (X.blk s3 H3 scope ce fp) [] H' b := fun {σ' H' s'} I' hn b hb =>
    ⟨hn b hb, (I'.ok.exf b hb).1, I'.ok.exfs b hb, .inl hb, fun x c e => (I'.ok.exf b hb).2 x c e, fun p hp => absurd (show p ∈ ([] : List (Addr × Obj)) ++ [] from hp) (by simp)⟩
  have loop : codeAny (model X.prog X.w) X.A (.compLoop (.DictComp kx vx [⟨tg, iter, [], 0⟩] scope pos) 0 (.ref it) (.ref D) ce) (compPost (model X.prog X.w) X.A X.xe use Qf (.ref D) s3.heap.objs.size) s4 := by
    refine compLoop_anyD (fun n s' => ∃ i H', L2.Inv (X.blk s3 H3 scope ce fp) [] (L2.wipe σ (own.map (·.2))) H' s' ∧ tn i s'.heap ∧ (∀ b ∈ fp, H' b = none) ∧ W i n H') ?_ m0 ⟨0, H3, I4, st4, nfp, w0⟩
    rintro n s5 ⟨i, H5, I5, st5, n5, w5⟩
    rcases turn i n H5 w5 with ⟨stop, qq⟩ | ⟨go, Nx, hNx, step⟩
    · refine thnF (T.done (X.blk s3 H3 scope ce fp) rfl rfl rfl hc i [] s5 _ H5 (fun _ _ => False) I5 (stat I5 n5) st5 stop) fun r s6 ⟨hr, I6⟩ => ?_
      subst hr
      have I7 : L2.Inv X pins σ H5 s6 := I3.call' (ch := fp) I6.os I6.base I6.hok I6.bare fun b hb => ⟨(f3 b hb).1.2.2.2.1, (f3 b hb).1.2.1, (f3 b hb).1.2.2.2.2.1, (f3 b hb).1.2.2.2.2.2⟩
      have nC : H5 s3.heap.objs.size = none := by
        have z : H5 ce.locals = none := I6.free
        rw [cL] at z
        exact z
      obtain ⟨m, hn, _⟩ := I6.loc
      have hn : s6.heap.Ns ce.locals m := hn
      rw [cL] at hn
      exact back D s3.heap.objs.size s6 m H5 I7 qq hn (I3.fpOk (Nat.le_refl _) nC)
    · refine thnF (T.item (X.blk s3 H3 scope ce fp) rfl rfl rfl hc i [] s5 _ H5 (fun _ _ => False) I5 (stat I5 n5) st5 go) fun r s6 ⟨u, hr, h6⟩ => ?_
      subst hr
      refine thnF h6 fun _ s7 ⟨x, H7, I7, r7, y7, st7, n7⟩ => ?_
      have I7' := I7.pinned (stat I7 n7) (T.obj _ _ st7)
      refine thnF (pg.run _ s7 _ H7 x u _ I7' r7 (step x H7 y7)) fun _ s8 ⟨σ8, H8, I8, hw8, q8⟩ => ?_
      have fin : ∀ {s' : Shared} {H' : Hp}, L2.Inv (X.blk s3 H3 scope ce fp) ([] ++ pinsAt fp s7.heap) σ8 H' s' → Nx H' → ∃ m, m < n ∧ ∃ i H', L2.Inv (X.blk s3 H3 scope ce fp) [] (L2.wipe σ (own.map (·.2))) H' s' ∧ tn i s'.heap ∧ (∀ b ∈ fp, H' b = none) ∧ W i m H' := fun {s' H'} I' nx => by
        obtain ⟨m', hm, w'⟩ := hNx H' nx
        have pin' : ∀ b ∈ fp, ∀ o, s7.heap.get? b = some o → s'.heap.get? b = some o ∧ H' b = none := fun b hb o e =>
          let z := I'.pin (b, o) (List.mem_append_right _ (List.mem_append_right _ (mem_pinsAt hb e)))
          ⟨z.1, z.2.1⟩
        have hl : (L2.wipe σ (own.map (·.2))).length = σ8.length := by rw [← hw8, wipe_length]
        refine ⟨m', hm, i + 1, H', (I'.unpinned (pins := [])).weak hl (fun j v e => ?_), T.keep _ _ _ st7 fun b hb o e => (pin' b hb o e).1, fun b hb => ?_, w'⟩
        · rw [← hw8] at e
          exact (wipe_some e).1
        · obtain ⟨o, e, _⟩ := T.obj _ _ st7 b hb
          exact (pin' b hb o e).2
      show wpAny _ _ (pure true) _ _ _
      refine wpAny_pure ?_
      rw [if_pos rfl]
      refine thnF (pk.run _ s8 σ8 H8 _ I8 q8) fun z s10 ⟨yk, H10, I10, r10, q10⟩ => ?_
      refine thnF (pe.run _ s10 σ8 H10 _ I10 q10) fun z2 s11 ⟨yv, H11, I11, r11, F, ep, ks, ds, kvs, vvs, k, d, sb, dh, rk, hk1, rd, hl1, nx⟩ => ?_
      exact d_dset (X := X.blk s3 H3 scope ce fp) (g := gt) hw hu I11 sb dh rk hk1 rd r10 r11 hl1 fun s12 ep' kvs' vvs' I12 dh12 => fin I12 (nx ep' kvs' vvs' dh12)
  exact codeAny_compStart_dict loop (T.self X.A 0 _ _ _ st4 loop)
theorem dcD_pe {kx vx tg iter : Expr} {scope : Scope} {own : List (Str × Nat)} {pos : Pos} {wi : TI} {g : TG} {tk tv : TE} (hw : gt.wd = X.w) (hu : X.A.units + 65 < cLine) (hc : X.calm = true) (hN : X.N.Nodup) (hi : PI X tg iter wi) (ok : BlkOk X.N X.env.scope scope own)
    (hg : ∀ (s : Shared) (H : Hp) (C : Addr) (cl : List (Str × Addr)) (fp : List Addr), PG (X.blk s H scope (compEnvC scope cl C X.env) fp) tg g)
    (hk : ∀ (s : Shared) (H : Hp) (C : Addr) (cl : List (Str × Addr)) (fp : List Addr), PE (X.blk s H scope (compEnvC scope cl C X.env) fp) kx tk)
    (he : ∀ (s : Shared) (H : Hp) (C : Addr) (cl : List (Str × Addr)) (fp : List Addr), PE (X.blk s H scope (compEnvC scope cl C X.env) fp) vx tv) (hs : ∀ x, foldedSetIterable iter X.env x = pure x) :
    PE X (.DictComp kx vx [⟨tg, iter, [], 0⟩] scope pos) (tDcD X.K gt wi g tk tv (own.map (·.2))) := by
  refine ⟨fun pins s σ H Q I h => ?_⟩
  rw [arm_eval_DictComp]
  refine dcD_core hw hu hc hN I hi ok hg hk he hs h fun D C s' m H' I' q' hn f => ?_
  obtain ⟨f0, f1, f2', f3', f4, f5⟩ := f
  exact ⟨m, hn, fun h'' sb => ⟨.ref D, H', I'.turned (t' := s'.toks) (fun b o hb e => (sb.2 b hb).trans e) f0 f1 f3' f4 f5, rfl, q'⟩⟩
/-- name = {k: v for ..} on one line, the name a local -/
theorem dcD_set {i : Nat} {y : Str} {py : Pos} {kx vx tg iter : Expr} {scope : Scope} {own : List (Str × Nat)} {pos spos : Pos} {wi : TI} {g : TG} {tk tv : TE} (hw : gt.wd = X.w) (hu : X.A.units + 65 < cLine) (hc : X.calm = true) (hN : X.N.Nodup) (hy : X.N[i]? = some y) (hyl : X.env.scope.names.lookup y = some .local)
    (hsw : swapsWith (.DictComp kx vx [⟨tg, iter, [], 0⟩] scope pos) (some (.Name y py)) spos.line X.env = pure true) (hi : PI X tg iter wi) (ok : BlkOk X.N X.env.scope scope own)
    (hg : ∀ (s : Shared) (H : Hp) (C : Addr) (cl : List (Str × Addr)) (fp : List Addr), PG (X.blk s H scope (compEnvC scope cl C X.env) fp) tg g)
    (hk : ∀ (s : Shared) (H : Hp) (C : Addr) (cl : List (Str × Addr)) (fp : List Addr), PE (X.blk s H scope (compEnvC scope cl C X.env) fp) kx tk)
    (he : ∀ (s : Shared) (H : Hp) (C : Addr) (cl : List (Str × Addr)) (fp : List Addr), PE (X.blk s H scope (compEnvC scope cl C X.env) fp) vx tv) (hs : ∀ x, foldedSetIterable iter X.env x = pure x) :
    PS X (.Assign [.Name y py] (.DictComp kx vx [⟨tg, iter, [], 0⟩] scope pos) spos) (tAsg (tDcD X.K gt wi g tk tv (own.map (·.2))) (gName i)) := by
  refine ⟨fun pins s σ H D I h => ?_⟩
  rw [exec_Assign_Name_used _ _ _ _ hsw]
  refine wpAny_bind (wpAny_standAt (wpAny_bind ?_))
  show wpAny _ X.A (do let _ ← comprehension (.DictComp kx vx [⟨tg, iter, [], 0⟩] scope pos) scope X.env (firstIterPos [⟨tg, iter, [], 0⟩] pos) newDict false (PySem.eval iter X.env) (some (assign (.Name y py) X.env))) _ _ s
  have h : tDcD X.K gt wi g tk tv (own.map (·.2)) σ H (fun x H1 => gName i x σ H1 D.nx) := h
  refine wpAny_bind (thn (dcD_core (Qf := fun _ s' => SP X pins D .next s') hw hu hc hN I hi ok hg hk he hs h fun L C s' m H' I' q hn f => ?_) fun _ s' hq => wpAny_pure (wpAny_pure hq))
  show wpAny _ _ (assign (.Name y py) X.env (.ref L)) _ _ _
  refine wpAny_assign_Name (store_ok2 (v := V.ref L) I' hN hy (.inl hyl) rfl (fun s2 I2 ⟨a, sb, ha⟩ => ?_) (.inr hyl))
  obtain ⟨f0, f1, f2', f3', f4, f5⟩ := f
  have haC : C ≠ a := by
    rcases ha with z | z
    · rw [z]; exact f1
    · exact fun e => f4 y a z e.symm
  exact ⟨m, hn.sameBut sb haC, fun h3 sb3 => ⟨_, H', I2.turned (t' := s2.toks) (fun b o hb e => (sb3.2 b hb).trans e) f0 f1 f3' f4 f5, q⟩⟩
end
theorem dcLoop_inv {bindf : Fx.D → Fx.R Env} {key val : Env → Fx.R Fx.D} {d : Fx.D} {r ks vs : List Fx.D} {kv : List Fx.D × List Fx.D} (h : dcLoop bindf key val (d :: r) ks vs = .ok kv) :
    ∃ env k v, bindf d = .ok env ∧ key env = .ok k ∧ val env = .ok v ∧ k.keyOk = true ∧ ks.length < sizeL ∧ dcLoop bindf key val r (dPut ks vs k v).1 (dPut ks vs k v).2 = .ok kv := by
  simp only [dcLoop] at h
  cases q1 : bindf d with
  | ok env =>
    rw [q1, Fx.R.bind_ok] at h
    cases q2 : key env with
    | ok k =>
      rw [q2, Fx.R.bind_ok] at h
      cases q3 : val env with
      | ok v =>
        rw [q3, Fx.R.bind_ok] at h
        split at h
        · rename_i hc
          rw [Bool.and_eq_true, decide_eq_true_eq] at hc
          exact ⟨env, k, v, rfl, q2, q3, hc.1, hc.2, h⟩
        · cases h
      | ex C fs => rw [q3] at h; cases h
      | no => rw [q3] at h; cases h
    | ex C fs => rw [q2] at h; cases h
    | no => rw [q2] at h; cases h
  | ex C fs => rw [q1] at h; cases h
  | no => rw [q1] at h; cases h
theorem dcLoop_ex {t : T} {own : List Nat} {env : Env} {fk fv : Env → Fx.R Fx.D} (hk : ∀ e C fs, fk e ≠ .ex C fs) (hv : ∀ e C fs, fv e ≠ .ex C fs) {C : Nat} {fs : List Fx.D} : ∀ {items ks vs : List Fx.D}, dcLoop (fun d => bindT t d (wipeE env own)) fk fv items ks vs ≠ .ex C fs
  | [], ks, vs, h => by cases h
  | d :: r, ks, vs, h => by
    simp only [dcLoop] at h
    cases q1 : bindT t d (wipeE env own) with
    | ok env1 =>
      rw [q1, Fx.R.bind_ok] at h
      cases q2 : fk env1 with
      | ok k =>
        rw [q2, Fx.R.bind_ok] at h
        cases q3 : fv env1 with
        | ok v =>
          rw [q3, Fx.R.bind_ok] at h
          split at h
          · exact dcLoop_ex hk hv h
          · cases h
        | ex C fs => exact hv _ _ _ q3
        | no => rw [q3] at h; cases h
      | ex C fs => exact hk _ _ _ q2
      | no => rw [q2] at h; cases h
    | ex C' fs' => exact bindT_ex q1
    | no => rw [q1] at h; cases h
/-- what a dict comprehension gives -/
def dcF (fi : Env → Fx.R (List Fx.D)) (t : T) (own : List Nat) (fk fv : Env → Fx.R Val) : Env → Fx.R Val := fun env => (fi env).bind fun items =>
  (dcLoop (fun d => bindT t d (wipeE env own)) (fun e => noEx ((fk e).bind fun v => esc v)) (fun e => noEx ((fv e).bind fun v => esc v)) items [] []).bind fun kv => .ok (.own, .dct kv.1 kv.2)
theorem DHas.ext {K : PySem.W.Frag} {g : Tab} {F F' H H' : Hp} {a : Addr} {ep : Nat} {ks ds : List Fx.D} {kvs vvs : List V} (h : DHas K g F H a ep ks ds kvs vvs) (e : Ext F H F' H') : DHas K g F' H' a ep ks ds kvs vvs := ⟨e.hh _ _ h.at_, RepL.mono e.ff _ _ h.rk, RepL.mono e.ff _ _ h.rv, h.ok⟩
section
variable {g : Tab} {xo : XO} {F0 H0 : Hp} {W : WX} {K : PySem.W.Frag}
theorem tdc_ok {t : T} {own : List Nat} {fi : Env → Fx.R (List Fx.D)} {fk fv : Env → Fx.R Val} (hsub : ∀ i ∈ t.slots, i ∈ own) (σ : L2.St) (H : Hp) (Q : VK) (h : TEo K g xo F0 H0 W (dcF fi t own fk fv) σ H Q) :
    tDcD K g (TIo K g xo F0 H0 W true fi) (fun v σ H Q => ∃ F0, TGo K g xo F0 H0 t v σ H Q) (fun σ H Q => ∃ F0, TEo K g xo F0 H0 noW fk σ H Q) (fun σ H Q => ∃ F0, TEo K g xo F0 H0 noW fv σ H Q) own σ H Q := by
  obtain ⟨F, env, R0, p⟩ := h
  refine ⟨F, env, R0, ?_⟩
  unfold dcF at p
  have nx : ∀ {α : Type} (r : Fx.R α) (C : Nat) (fs : List Fx.D), noEx r ≠ .ex C fs := fun r C fs h => by cases r <;> cases h
  cases q : fi env with
  | ex C fs => rw [q] at p; exact p
  | no => rw [q] at p; exact p.elim
  | ok items =>
    rw [q, Fx.R.bind_ok] at p
    intro F1 H1 J e1 hsrc D hD
    have R1 := R0.ext' e1
    cases q2 : dcLoop (fun d => bindT t d (wipeE env own)) (fun e => noEx ((fk e).bind fun v => esc v)) (fun e => noEx ((fv e).bind fun v => esc v)) items [] [] with
    | ex C fs => exact absurd q2 (dcLoop_ex (fun e C fs => nx _ C fs) (fun e C fs => nx _ C fs))
    | no => rw [q2] at p; exact p.elim
    | ok kv =>
      rw [q2, Fx.R.bind_ok] at p
      have hF1D : F1 D = none := by
        cases z : F1 D with
        | none => rfl
        | some u => rw [e1.sub _ _ z] at hD; cases hD
      refine ⟨fun i m H => ∃ F ep ks ds kvs vvs, Ext F1 H1 F H ∧ F D = none ∧ DHas K g F H D ep ks ds kvs vvs ∧ dcLoop (fun d => bindT t d (wipeE env own)) (fun e => noEx ((fk e).bind fun v => esc v)) (fun e => noEx ((fv e).bind fun v => esc v)) (items.drop i) ks ds = .ok kv ∧ m + i = items.length,
        ⟨items.length, F1, 0, [], [], [], [], (Ext.refl e1.sub).laid hD, hF1D, ⟨upd_same, .nil, .nil, List.nodup_nil, rfl, rfl⟩, q2, rfl⟩, fun i m H2 ⟨F2, ep, ks, ds, kvs, vvs, e2, hf2, dh, q3, hm⟩ => ?_⟩
      obtain ⟨hgo, hstop, hy⟩ := hsrc F2 H2 e2.ff e2.hh e2.sub
      by_cases hi : i < items.length
      · right
        rw [List.drop_eq_getElem_cons hi] at q3
        obtain ⟨env1, k, v, w1, w2, w3, hko, hlen, q4⟩ := dcLoop_inv q3
        refine ⟨hgo i hi, fun H' => ∃ F ep ks ds kvs vvs, Ext F1 H1 F H' ∧ F D = none ∧ DHas K g F H' D ep ks ds kvs vvs ∧ dcLoop (fun d => bindT t d (wipeE env own)) (fun e => noEx ((fk e).bind fun v => esc v)) (fun e => noEx ((fv e).bind fun v => esc v)) (items.drop (i + 1)) ks ds = .ok kv,
          fun H' ⟨F', ep', ks', ds', kvs', vvs', a1, a2, a3, a4⟩ => ⟨m - 1, by omega, F', ep', ks', ds', kvs', vvs', a1, a2, a3, a4, by omega⟩, fun x H3 hx => ?_⟩
        obtain ⟨F3, e3, rx⟩ := hy i items[i] x H3 (List.getElem?_eq_getElem hi) hx
        have R3 := (R1.ext' (e2.trans e3)).wipe own
        refine ⟨F0, F3, _, items[i], env1, R3, rx, w1, fun σ4 R4 so => ⟨?_, ?_⟩⟩
        · rw [so.wipe hsub]; exact wipe_wipe σ own
        · obtain ⟨mk, k1, k2⟩ := esc_inv w2
          obtain ⟨mv, v1, v2⟩ := esc_inv w3
          refine ⟨F0, F3, env1, R4, ?_⟩
          rw [k1]
          intro y F6 H6 e6 hy6
          obtain ⟨F7, e7, a7⟩ := hy6.pas e6
          refine ⟨F0, F7, env1, R4.ext' e7, ?_⟩
          rw [v1]
          intro z F8 H8 e8 hz8
          obtain ⟨F9, e9, a9⟩ := hz8.pas e8
          have e39 := (e3.trans e7).trans e9
          refine ⟨F9, ep, ks, ds, kvs, vvs, k, v, (e2.trans e39).sub, dh.ext e39, Rep.mono e9.ff _ _ (a7.esc (esc_pas k2)), hko, a9.esc (esc_pas v2), by rw [sizeLine_eq]; exact hlen, fun ep' kvs' vvs' dh' => ?_⟩
          exact ⟨F9, ep', _, _, kvs', vvs', (e2.trans e39).write hD (e39.unf dh.at_ hf2), e39.unf dh.at_ hf2, dh', q4⟩
      · left
        have hi0 : i = items.length := by omega
        subst hi0
        rw [List.drop_length] at q3
        cases q3
        exact ⟨hstop, p _ F2 H2 (e1.trans e2) ⟨D, rfl, e1.free hD, hf2, ep, kvs, vvs, dh.at_, dh.rk, dh.rv, dh.ok⟩⟩
end
section
variable {g : Tab} {xo : XO} {F0 H0 : Hp} {W : WX} {X : Cx} {kx vx tg iter : Expr} {pos : Pos} {fi : Env → Fx.R (List Fx.D)} {fk fv : Env → Fx.R Val}
theorem se_dc {t : T} {scope : Scope} {own : List (Str × Nat)} (hw : g.wd = X.w) (hu : X.A.units + 65 < cLine) (hc : X.calm = true) (hN : X.N.Nodup) (ok : BlkOk X.N X.env.scope scope own) (hi : PI X tg iter (TIo X.K g xo F0 H0 W true fi))
    (hg : ∀ (s : Shared) (H : Hp) (C : Addr) (cl : List (Str × Addr)) (fp : List Addr) F0, PG (X.blk s H scope (compEnvC scope cl C X.env) fp) tg (TGo X.K g xo F0 H0 t))
    (hk : ∀ (s : Shared) (H : Hp) (C : Addr) (cl : List (Str × Addr)) (fp : List Addr) F0, PE (X.blk s H scope (compEnvC scope cl C X.env) fp) kx (TEo X.K g xo F0 H0 noW fk))
    (he : ∀ (s : Shared) (H : Hp) (C : Addr) (cl : List (Str × Addr)) (fp : List Addr) F0, PE (X.blk s H scope (compEnvC scope cl C X.env) fp) vx (TEo X.K g xo F0 H0 noW fv)) (hs : ∀ x, foldedSetIterable iter X.env x = pure x) (hsub : ∀ i ∈ t.slots, i ∈ own.map (·.2)) :
    SE g xo F0 H0 W X (.DictComp kx vx [⟨tg, iter, [], 0⟩] scope pos) (dcF fi t (own.map (·.2)) fk fv) :=
  (dcD_pe (gt := g) hw hu hc hN hi ok (fun s H C cl fp => ⟨fun pins s' σ H v u Q I r ⟨F, q⟩ => (hg s _ C cl fp F).run pins s' σ H v u Q I r q⟩) (fun s H C cl fp => ⟨fun pins s' σ H Q I ⟨F, q⟩ => (hk s _ C cl fp F).run pins s' σ H Q I q⟩)
    (fun s H C cl fp => ⟨fun pins s' σ H Q I ⟨F, q⟩ => (he s _ C cl fp F).run pins s' σ H Q I q⟩) hs).imp fun σ H Q h => tdc_ok hsub σ H Q h
theorem ss_setDc {t : T} {scope : Scope} {own : List (Str × Nat)} {i : Nat} {y : Str} {b : Bool} {spos py : Pos} (hn0 : b = true ∨ i ≠ 0) (hw : g.wd = X.w) (hu : X.A.units + 65 < cLine) (hc : X.calm = true) (hN : X.N.Nodup) (hy : X.N[i]? = some y) (hyl : X.env.scope.names.lookup y = some .local)
    (hsw : swapsWith (.DictComp kx vx [⟨tg, iter, [], 0⟩] scope pos) (some (.Name y py)) spos.line X.env = pure true) (ok : BlkOk X.N X.env.scope scope own) (hi : PI X tg iter (TIo X.K g xo F0 H0 W true fi))
    (hg : ∀ (s : Shared) (H : Hp) (C : Addr) (cl : List (Str × Addr)) (fp : List Addr) F0, PG (X.blk s H scope (compEnvC scope cl C X.env) fp) tg (TGo X.K g xo F0 H0 t))
    (hk : ∀ (s : Shared) (H : Hp) (C : Addr) (cl : List (Str × Addr)) (fp : List Addr) F0, PE (X.blk s H scope (compEnvC scope cl C X.env) fp) kx (TEo X.K g xo F0 H0 noW fk))
    (he : ∀ (s : Shared) (H : Hp) (C : Addr) (cl : List (Str × Addr)) (fp : List Addr) F0, PE (X.blk s H scope (compEnvC scope cl C X.env) fp) vx (TEo X.K g xo F0 H0 noW fv)) (hs : ∀ x, foldedSetIterable iter X.env x = pure x) (hsub : ∀ i ∈ t.slots, i ∈ own.map (·.2)) :
    SS g xo F0 H0 W X (.Assign [.Name y py] (.DictComp kx vx [⟨tg, iter, [], 0⟩] scope pos) spos) (fun env => ofR env ((dcF fi t (own.map (·.2)) fk fv env).bind (keep b)) fun v => .nx (setS env i v)) :=
  (dcD_set (gt := g) hw hu hc hN hy hyl hsw hi ok (fun s H C cl fp => ⟨fun pins s' σ H v u Q I r ⟨F, q⟩ => (hg s _ C cl fp F).run pins s' σ H v u Q I r q⟩) (fun s H C cl fp => ⟨fun pins s' σ H Q I ⟨F, q⟩ => (hk s _ C cl fp F).run pins s' σ H Q I q⟩)
    (fun s H C cl fp => ⟨fun pins s' σ H Q I ⟨F, q⟩ => (he s _ C cl fp F).run pins s' σ H Q I q⟩) hs).len.imp fun D σ H h hl => tdc_ok hsub σ H _ (st_set (List.getElem?_eq_some_iff.mp hy).1 hn0 D σ H h hl)
end
end Fx

/-! try, and the exception that a suite holds. -/
namespace Fx
open PySem PySem.Spec PyProof.Rows L2
/-- X is the context where xo is held -/
inductive XCx (g : Tab) : XO → Cx → Prop where
  | none (X : Cx) (pn : Option Addr) : XCx g ⟨none, pn⟩ X
  | some (X : Cx) (x : XI) (pin : Option Addr) (oe : Obj) (pn : List (Addr × Obj)) : Zc (.ref (g.xa x.C)) x.dx oe → (∃ vs, oe.data = .fields vs) → (x.fs = [] → x.dx = none) → XCx g ⟨some x, pin⟩ (X.suite x.a ((x.a, oe) :: pn))
structure XfOk (g : Tab) (K : PySem.W.Frag) (C j : Nat) (n : Str) : Prop where
  xf : XfC K (g.xa C)
  no : PySem.W.findIn K (.ref (g.xa C)) n = some none
  at_ : (g.xf C)[j]? = some n
  nd : (g.xf C).Nodup
theorem getX_inv {env : Env} {i : Nat} {r : Nat × List Fx.D} (h : getX env i = .ok r) : env[i]? = some (some (.frz, .exc r.1 r.2)) := by
  unfold getX at h
  split at h
  · rename_i C fs e; cases h; exact e
  · cases h
theorem getX_ex {env : Env} {i : Nat} {C : Nat} {fs : List Fx.D} : getX env i ≠ .ex C fs := by
  unfold getX
  split <;> intro h <;> cases h
section
variable {pin : Option Addr} {g : Tab} {xo : XO} {F0 H0 : Hp} {W : WX} {X : Cx} {pos px apos : Pos}
/-- nothing to show -/
theorem se_void {e : Expr} {f : Env → Fx.R Val} (h : ∀ F H σ env, FRel X.K g xo F0 H0 F H σ env → (∀ mv, f env ≠ .ok mv) ∧ ∀ C fs, f env ≠ .ex C fs) : SE g xo F0 H0 W X e f := ⟨fun pins s σ H Q I ⟨F, env, R0, p⟩ => by
  obtain ⟨h1, h2⟩ := h F H σ env R0
  cases q : f env with
  | ok mv => exact absurd q (h1 mv)
  | ex C fs => exact absurd q (h2 C fs)
  | no => rw [q] at p; exact p.elim⟩
theorem se_xfld {i : Nat} {x n : Str} {tab : List (Nat × Nat)} (hx : XCx g xo X) (ht : ∀ C j, tab.lookup C = some j → XfOk g X.K C j n) (hN : X.N[i]? = some x) (hv : Vis X.env.scope x) (hd : (x == ("__debug__" : Str)) = false) (hcd : (x == ("__classdict__" : Str)) = false)
    (hb : attributeBase (.Name x px) n X.env (PySem.eval (.Name x px) X.env) = PySem.eval (.Name x px) X.env) : SE g xo F0 H0 W X (.Attribute (.Name x px) n pos) (fun env => (getX env i).bind fun x => (Fx.R.ofOpt (tab.lookup x.1)).bind fun j => (Fx.R.ofOpt x.2[j]?).bind fun d => .ok (.frz, d)) := by
  have noex : ∀ env C fs, ((getX env i).bind fun x => (Fx.R.ofOpt (tab.lookup x.1)).bind fun j => (Fx.R.ofOpt x.2[j]?).bind fun d => (.ok (.frz, d) : Fx.R Val)) ≠ .ex C fs := by
    intro env C fs h
    cases q : getX env i with
    | ok r =>
      rw [q, Fx.R.bind_ok] at h
      cases q2 : tab.lookup r.1 with
      | none => rw [q2] at h; cases h
      | some j =>
        rw [q2] at h
        simp only [Fx.R.ofOpt_some, Fx.R.bind_ok] at h
        cases q3 : r.2[j]? with
        | none => rw [q3] at h; cases h
        | some d => rw [q3] at h; cases h
    | ex C fs => exact getX_ex q
    | no => rw [q] at h; cases h
  cases hx with
  | none =>
    refine se_void fun F H σ env R0 => ⟨fun mv h => ?_, fun C fs => noex env C fs⟩
    cases q : getX env i with
    | ok r =>
      have sl := R0.slot i _ (getX_inv q)
      obtain ⟨x, e, _⟩ := sl
      cases e
    | ex C fs => exact getX_ex q
    | no => rw [q] at h; cases h
  | some X0 x0 pin oe pn hz hf hfs =>
    cases hl : tab.lookup x0.C with
    | none =>
      refine se_void fun F H σ env R0 => ⟨fun mv h => ?_, fun C fs => noex env C fs⟩
      cases q : getX env i with
      | ok r =>
        have sl := R0.slot i _ (getX_inv q)
        obtain ⟨x', e, _, e2, _⟩ := sl
        cases e
        rw [q, Fx.R.bind_ok, ← e2, hl] at h
        cases h
      | ex C fs => exact getX_ex q
      | no => rw [q] at h; cases h
    | some j =>
      have T := ht _ _ hl
      refine (pe_xf (X := X0) T.xf T.no hz hf (pe_var hN hv hd hcd) hb).imp fun σ H Q ⟨F, env, R0, p⟩ => ?_
      have p : PostE X0.K g H0 W σ Q F H ((getX env i).bind fun x => (Fx.R.ofOpt (tab.lookup x.1)).bind fun j => (Fx.R.ofOpt x.2[j]?).bind fun d => .ok (.frz, d)) := p
      cases q : getX env i with
      | ex C fs => exact absurd q getX_ex
      | no => rw [q] at p; exact p.elim
      | ok r =>
        rw [q, Fx.R.bind_ok] at p
        obtain ⟨x', e, ei, eC, efs, hs, hd'⟩ := R0.slot i _ (getX_inv q)
        cases e
        rw [← eC, hl] at p
        simp only [Fx.R.ofOpt_some, Fx.R.bind_ok] at p
        cases q3 : r.2[j]? with
        | none => rw [q3] at p; exact p.elim
        | some d =>
          rw [q3] at p
          simp only [Fx.R.ofOpt_some, Fx.R.bind_ok] at p
          cases q4 : r.2 with
          | nil => rw [q4] at q3; cases q3
          | cons f0 r0 =>
            obtain ⟨dd, vs, h1, h2, h3⟩ := hd' f0 r0 q4
            obtain ⟨v, hv', rv⟩ := h3.get q3
            refine ⟨_, hs, rfl, rfl, dd, _, v, h1, R0.ext.sub _ _ h2, ?_, p v F H (Ext.refl R0.ext.sub) rv⟩
            rw [← eC]
            exact zip_get T.nd T.at_ hv'
/-! ### isinstance of the held exception -/
structure XisC (K : PySem.W.Frag) (D : Addr) : Prop where
  ec : L2.ExcC K D
  cl : (PySem.W.clsIn K D).isSome = true
def rIsX (K : PySem.W.Frag) (D a : Addr) (dx : Option Addr) : List V → Hp → VK → Prop := fun xs H Q => ∃ (c : V) (cv : Value) (b : Bool), xs = [.ref a, c] ∧ (∀ u, RelV c u → u = cv) ∧ PySem.W.kitOne K (.ref D) cv = some b ∧ (∀ dd, dx = some dd → ∃ fs, H dd = some (.xd fs)) ∧ Q (.bl b) H
theorem call_isX {a D : Addr} {dx : Option Addr} {oe : Obj} {pn : List (Addr × Obj)} (C : XisC X.K D) (hz : Zc (.ref D) dx oe) (hf : ∃ vs, oe.data = .fields vs) : CallR (X.suite a ((a, oe) :: pn)) (.builtin "isinstance") (rIsX X.K D a dx) := by
  intro pins s σ H xs us Q I r h
  obtain ⟨c, cv, b, rfl, hcv, e, hdx, q⟩ := h
  cases r with
  | cons rx rr =>
    cases rr with
    | cons rt rr =>
      cases rr
      cases rx
      have ec := hcv _ rt
      subst ec
      obtain ⟨hget, _⟩ := I.pin (a, oe) (List.mem_append.mpr (.inl List.mem_cons_self))
      obtain ⟨vs, hv⟩ := hf
      have J : ∃ od, PySem.W.InstAt s.heap a oe D od := by
        cases dx with
        | none => exact ⟨none, hget, hz.1, by unfold PySem.W.notCls; rw [hv] <;> rfl, by rw [hz.2]; trivial⟩
        | some dd =>
          obtain ⟨fs, hH⟩ := hdx dd rfl
          have hx : ObjOk X.prog X.w H s.heap dd (.xd fs) := I.hok dd _ hH
          obtain ⟨mA, hns, _⟩ := hx
          obtain ⟨od, ho, _⟩ := lookIn_ns hns
          exact ⟨some od, hget, hz.1, by unfold PySem.W.notCls; rw [hv] <;> rfl, by rw [hz.2]; exact ho⟩
      obtain ⟨od, J⟩ := J
      exact PySem.W.kia_one (PySem.W.kitx_exc C.cl C.ec.hg C.ec.hk C.ec.hs C.ec.ha C.ec.hn C.ec.ht C.ec.hm) I.kIn J e (fun z => nomatch z) fun tk => ⟨.bl b, H, I.kept (t' := tk) fun _ _ z => z, rfl, q⟩
theorem se_xis {i C : Nat} {x y : Str} {p py : Pos} {tab : List (Nat × Bool)} (hx : XCx g xo X) (ht : ∀ C' b, tab.lookup C' = some b → XisC X.K (g.xa C') ∧ PySem.W.kitOne X.K (.ref (g.xa C')) (.ref (g.xa C)) = some b) (hm : X.mg y = some (.ref (g.xa C))) (hmi : X.mg "isinstance" = none) (hgi : Gl X "isinstance") (hgy : Gl X y) (hdy : (y == ("__debug__" : Str)) = false)
    (hN : X.N[i]? = some x) (hv : Vis X.env.scope x) (hd : (x == ("__debug__" : Str)) = false) (hcd : (x == ("__classdict__" : Str)) = false) :
    SE g xo F0 H0 W X (.Call (.Name "isinstance" p) [.Name x px, .Name y py] [] pos) (fun env => (getX env i).bind fun x => (Fx.R.ofOpt (tab.lookup x.1)).bind fun b => .ok (.frz, .bl b)) := by
  have noex : ∀ env C fs, ((getX env i).bind fun x => (Fx.R.ofOpt (tab.lookup x.1)).bind fun b => (.ok (.frz, .bl b) : Fx.R Val)) ≠ .ex C fs := by
    intro env C fs h
    cases q : getX env i with
    | ok r =>
      rw [q, Fx.R.bind_ok] at h
      cases q2 : tab.lookup r.1 with
      | none => rw [q2] at h; cases h
      | some j => rw [q2] at h; cases h
    | ex C fs => exact getX_ex q
    | no => rw [q] at h; cases h
  cases hx with
  | none =>
    refine se_void fun F H σ env R0 => ⟨fun mv h => ?_, fun C fs => noex env C fs⟩
    cases q : getX env i with
    | ok r =>
      have sl := R0.slot i _ (getX_inv q)
      obtain ⟨x, e, _⟩ := sl
      cases e
    | ex C fs => exact getX_ex q
    | no => rw [q] at h; cases h
  | some X0 x0 pin oe pn hz hf hfs =>
    cases hl : tab.lookup x0.C with
    | none =>
      refine se_void fun F H σ env R0 => ⟨fun mv h => ?_, fun C fs => noex env C fs⟩
      cases q : getX env i with
      | ok r =>
        have sl := R0.slot i _ (getX_inv q)
        obtain ⟨x', e, _, e2, _⟩ := sl
        cases e
        rw [q, Fx.R.bind_ok, ← e2, hl] at h
        cases h
      | ex C fs => exact getX_ex q
      | no => rw [q] at h; cases h
    | some b =>
      obtain ⟨T, hk⟩ := ht _ _ hl
      have hT : PE (X0.suite x0.a ((x0.a, oe) :: pn)) (.Name y py) (tC (.ref (g.xa C))) := pe_glob hgy hm rfl hdy
      refine (pe_callB (call_isX (X := X0) T hz hf) hgi hmi (by decide +kernel) (pa_cons (pe_var hN hv hd hcd) (pa_cons hT pa_nil rfl) rfl) (by decide) (by decide) rfl rfl).imp fun σ H Q ⟨F, env, R0, p⟩ => ?_
      have p : PostE X0.K g H0 W σ Q F H ((getX env i).bind fun x => (Fx.R.ofOpt (tab.lookup x.1)).bind fun b => .ok (.frz, .bl b)) := p
      cases q : getX env i with
      | ex C fs => exact absurd q getX_ex
      | no => rw [q] at p; exact p.elim
      | ok r =>
        rw [q, Fx.R.bind_ok] at p
        obtain ⟨x', e, ei, eC, efs, hs, hd'⟩ := R0.slot i _ (getX_inv q)
        cases e
        rw [← eC, hl] at p
        simp only [Fx.R.ofOpt_some, Fx.R.bind_ok] at p
        refine ⟨_, hs, .ref (g.xa C), .ref (g.xa C), b, rfl, fun u r => r, hk, fun dd hdd => ?_, p (.bl b) F H (Ext.refl R0.ext.sub) (show Rep X0.K g F (.bl b) (.bl b) from Rep.mkB b)⟩
        cases q4 : r.2 with
        | nil =>
          rw [hfs (by rw [efs, q4])] at hdd
          cases hdd
        | cons f0 r0 =>
          obtain ⟨dd', vs, h1, h2, h3⟩ := hd' f0 r0 q4
          have h1 : x0.dx = some dd' := h1
          rw [hdd] at h1; cases h1
          exact ⟨_, R0.ext.sub _ _ h2⟩
/-! ### try -/
theorem FRel.drop {K : PySem.W.Frag} {F H : Hp} {σ : L2.St} {env : Env} {x : XI} (R0 : FRel K g ⟨none, pin⟩ F0 H0 F H σ env) : FRel K g ⟨some x, pin⟩ F0 H0 F H σ env := ⟨R0.ext, R0.len, fun j mw e => by
    have sl := R0.slot j mw e
    obtain ⟨m, d⟩ := mw
    cases m with
    | frz =>
      cases d with
      | exc C fs => obtain ⟨x, z, _⟩ := sl; cases z
      | _ => exact sl
    | own => exact sl
    | bor => exact sl
    | lnt => exact sl, R0.sep⟩
theorem FRel.hold {K : PySem.W.Frag} {F H : Hp} {σ : L2.St} {env : Env} {i C : Nat} {fs : List Fx.D} {dx : Option Addr} {a : Addr} (R0 : FRel K g ⟨none, pin⟩ F0 H0 F H σ env) (x : XRep K g H0 F H C fs dx) :
    ∃ F', FRel K g ⟨some ⟨i, a, C, fs, dx⟩, pin⟩ F0 H0 F' H (σ.set i (some (.ref a))) (setS env i (.frz, .exc C fs)) := by
  have noX : ∀ j C fs, env[j]? ≠ some (some (Mode.frz, Fx.D.exc C fs)) := fun j C fs e => by
    obtain ⟨x, z, _⟩ := R0.slot j _ e
    cases z
  have lift : ∀ {F' : Hp}, FRel K g ⟨none, pin⟩ F0 H0 F' H σ env → FRel K g ⟨some ⟨i, a, C, fs, dx⟩, pin⟩ F0 H0 F' H σ env := fun R => ⟨R.ext, R.len, fun j mw e => by
    have sl := R.slot j mw e
    obtain ⟨m, d⟩ := mw
    cases m with
    | frz => cases d <;> first | exact sl | (exact absurd e (noX _ _ _))
    | own => exact sl
    | bor => exact sl
    | lnt => exact sl, R.sep⟩
  by_cases hi : i < env.length
  rotate_left
  · refine ⟨F, ?_⟩
    have e1 : setS env i (.frz, .exc C fs) = env := List.set_eq_of_length_le (Nat.le_of_not_lt hi)
    have e2 : σ.set i (some (.ref a)) = σ := List.set_eq_of_length_le (by rw [R0.len]; exact Nat.le_of_not_lt hi)
    rw [e1, e2]
    exact R0.drop
  have hl : i < σ.length := by rw [R0.len]; exact hi
  cases fs with
  | nil =>
    obtain rfl : dx = none := x
    refine ⟨F, (lift R0).set hi ⟨_, rfl, rfl, rfl, rfl, List.getElem?_set_self hl, fun f r z => by cases z⟩ fun d p j e z => by cases z⟩
  | cons f r =>
    obtain ⟨dd, vs, rfl, h1, h2, h3, h4⟩ := x
    have ef := R0.ext.freeze h3 h1 h2
    have sf : ∀ a o, F a = some o → upd F dd (.xd ((g.xf C).zip vs)) a = some o := fun a o q => by rw [upd_ne (ne_of_none q h2)]; exact q
    have R1 : FRel K g ⟨none, pin⟩ F0 H0 (upd F dd (.xd ((g.xf C).zip vs))) H σ env := by
      refine ⟨ef, R0.len, fun j mw e => ?_, R0.sep⟩
      have sl := R0.slot j mw e
      obtain ⟨m, d⟩ := mw
      cases m with
      | frz =>
        cases d with
        | exc C fs => exact absurd e (noX _ _ _)
        | _ => obtain ⟨v, y1, y2⟩ := sl; exact ⟨v, y1, Rep.mono sf _ _ y2⟩
      | own =>
        obtain ⟨q, y1, y2, y3, ypn, y4⟩ := sl
        have ne : q ≠ dd := fun z => by
          subst z
          cases d with
          | lst xs => obtain ⟨vs', z1, _⟩ := y4; rw [h3] at z1; cases z1
          | ins C' fs' => obtain ⟨dx', vs', z1, _⟩ := y4; rw [h3] at z1; cases z1
          | dct ks ds => obtain ⟨ep', kvs', vvs', z1, _⟩ := y4; rw [h3] at z1; cases z1
          | _ => exact y4.elim
        exact ⟨q, y1, by rw [upd_ne ne]; exact y2, y3, ypn, y4.mono sf fun o z => z⟩
      | bor => obtain ⟨q, y1, y2, y4⟩ := sl; exact ⟨q, y1, y2, y4.mono sf fun o z => z⟩
      | lnt => exact sl.elim
    refine ⟨_, (lift R1).set hi ⟨_, rfl, rfl, rfl, rfl, List.getElem?_set_self hl, fun f' r' z => ⟨dd, vs, rfl, upd_same, RepL.mono sf _ _ h4⟩⟩ fun d p j e z => by cases z⟩
theorem FRel.letGo {K : PySem.W.Frag} {F H : Hp} {σ : L2.St} {env : Env} {x : XI} (R0 : FRel K g ⟨some x, pin⟩ F0 H0 F H σ env) : FRel K g ⟨none, pin⟩ F0 H0 F H (σ.set x.i none) (env.set x.i none) := by
  have R1 := R0.wipe1 x.i none
  refine ⟨R1.ext, R1.len, fun j mw e => ?_, R1.sep⟩
  have sl := R1.slot j mw e
  obtain ⟨m, d⟩ := mw
  cases m with
  | frz =>
    cases d with
    | exc C fs =>
      obtain ⟨x', e1, e2, _⟩ := sl
      cases e1
      subst e2
      by_cases hl : x.i < env.length
      · rw [List.getElem?_set_self hl] at e; cases e
      · rw [List.getElem?_eq_none (by simpa using hl)] at e; cases e
    | _ => exact sl
  | own => exact sl
  | bor => exact sl
  | lnt => exact sl
/-- what is asked of an except clause -/
structure CatchOk (g : Tab) (X : Cx) (y : Str) (C : Nat) (tab : List (Nat × Bool)) : Prop where
  nm : Names X y (.ref (g.xa C))
  exm : ∀ C' b, tab.lookup C' = some b → PySem.W.exmOne X.K (.ref (g.xa C')) (.ref (g.xa C)) = some b
theorem ss_tryA {body suite : List Stmt} {b₀ : Stmt} {y n : Str} {C i : Nat} {tab : List (Nat × Bool)} {np pos' : Pos} {fb fs : Env → Out} (hs : X.stack = X.env :: X.outer) (hf : X.env.frame = some X.env.locals) (hN : X.N.Nodup) (hi : X.N[i]? = some n) (hln : X.env.kindOf n = some .local) (c : CatchOk g X y C tab) (tk : Takes X W)
    (hb : ∀ (W : WX) (pn : List (Addr × Obj)) (xe : Value → Shared → Prop), Takes (X.tr pn xe) W → PassesOwn (model X.prog X.w) X.A X.env xe → SSs g ⟨none, pin⟩ F0 H0 W (X.tr pn xe) body fb)
    (hsu : ∀ (x : XI) (X' : Cx), XCx g ⟨some x, pin⟩ X' → (∃ oe pn, X' = X.suite x.a ((x.a, oe) :: pn)) → SSs g ⟨some x, pin⟩ F0 H0 noW X' (b₀ :: suite) fs) :
    SS g ⟨none, pin⟩ F0 H0 W X (.Try body [.ExceptHandler (some (.Name y np)) (some n) (b₀ :: suite) pos'] [] [] pos) (fun env => catchO tab (fb env) fun C fs' env1 => goneO i (fs (setS env1 i (.frz, .exc C fs')))) := by
  have main : PS X (.Try body [.ExceptHandler (some (.Name y np)) (some n) (b₀ :: suite) pos'] [] [] pos) (fun D σ H => TSo X.K g ⟨none, pin⟩ F0 H0 (wAs X.K (.ref (g.xa C)) i (fun a cls d D σ H => ∃ C' fs', cls = .ref (g.xa C') ∧ (fs' = [] → d = none) ∧ TSo X.K g ⟨some ⟨i, a, C', fs', d⟩, pin⟩ F0 H0 noW fs D σ H) W D) fb D σ H) := by
    refine ps_try_as hs hf hN hi hln c.nm tk (tb := fun W => TSo X.K g ⟨none, pin⟩ F0 H0 W fb) (fun W' pn xe tk' hp => hb W' pn xe tk' hp) (fun a oe cls d pn hz hd => ?_)
    exact ⟨fun pins s σ H D I ⟨C', fs', ec, en, q⟩ => (hsu ⟨i, a, C', fs', d⟩ _ (.some X _ pin oe pn (by rw [← ec]; exact hz) hd en) ⟨oe, pn, rfl⟩).run pins s σ H D I q⟩
  refine main.len.imp fun D σ H ⟨F, env, R0, p⟩ hl => ?_
  refine ⟨F, env, R0, ?_⟩
  have hi0 : i < env.length := by rw [← R0.len, hl]; exact (List.getElem?_eq_some_iff.mp hi).1
  have p : PostS X.K g ⟨none, pin⟩ F0 H0 W D (catchO tab (fb env) fun C fs' env1 => goneO i (fs (setS env1 i (.frz, .exc C fs')))) := p
  cases q : fb env with
  | ex C' fs' env1 =>
    rw [q] at p
    intro σ1 dx F1 H1 R1 x1
    simp only [catchO] at p
    cases q2 : tab.lookup C' with
    | none => rw [q2] at p; exact p.elim
    | some b =>
      refine ⟨b, c.exm C' b q2, fun hb a ha => ?_, fun hb => ?_⟩
      · subst hb
        rw [q2] at p
        dsimp only at p
        · obtain ⟨F2, R2⟩ := R1.hold (i := i) (a := a) x1
          refine ⟨C', fs', rfl, fun z => by subst z; exact x1, F2, _, R2, ?_⟩
          cases q3 : fs (setS env1 i (.frz, .exc C' fs')) with
          | nx env2 => rw [q3] at p; exact fun σ' F' H' R' => p _ F' H' R'.letGo
          | bk env2 => rw [q3] at p; exact fun σ' F' H' R' => p _ F' H' R'.letGo
          | ct env2 => rw [q3] at p; exact fun σ' F' H' R' => p _ F' H' R'.letGo
          | rt mv => rw [q3] at p; exact p
          | ex C fs env2 => rw [q3] at p; exact p.elim
          | no => rw [q3] at p; exact p.elim
      · subst hb
        rw [q2] at p
        exact p σ1 dx F1 H1 R1 x1
  | _ => rw [q] at p; exact p
end
end Fx

/-! Heads of expressions: what the model's special cases say of the plain ones. -/
namespace Fx
open PySem PySem.Spec PyProof.Rows L2
def nStar : Expr → Bool
  | .Starred _ _ => false
  | _ => true
def nStars (es : List Expr) : Bool := es.all nStar
theorem star_cons {e : Expr} {es : List Expr} {env : PySem.Env} (h : nStar e = true) : starEach (e :: es) env = (false, PySem.eval e env) :: starEach es env := by
  cases e <;> first | rfl | cases h
theorem star_all : ∀ {es : List Expr} {env : PySem.Env}, nStars es = true → ∀ p ∈ starEach es env, p.1 = false
  | [], env, h, p, hp => by cases hp
  | e :: es, env, h, p, hp => by
    simp only [nStars, List.all_cons, Bool.and_eq_true] at h
    rw [star_cons h.1] at hp
    rcases List.mem_cons.mp hp with rfl | hp
    · rfl
    · exact star_all h.2 p hp
theorem back_any {es : List Expr} {env : PySem.Env} {pos : Pos} (h : nStars es = true) : (backTo pos (starEach es env)).any (·.1) = false := by
  unfold backTo
  rw [List.any_map, List.any_eq_false]
  intro p hp
  simpa using star_all h p hp
theorem back_all {es : List Expr} {env : PySem.Env} {pos : Pos} (h : nStars es = true) : (backTo pos (starEach es env)).all (fun x => !x.1) = true := by
  unfold backTo
  rw [List.all_map, List.all_eq_true]
  intro p hp
  simpa using star_all h p hp
theorem he_of {es : List Expr} {env : PySem.Env} {pos : Pos} (h : nStars es = true) : es = [] ∨ ∃ e es', es = e :: es' ∧ starEach (e :: es') env = (false, PySem.eval e env) :: starEach es' env ∧ (backTo pos (starEach es' env)).any (·.1) = false := by
  cases es with
  | nil => exact .inl rfl
  | cons e es =>
    simp only [nStars, List.all_cons, Bool.and_eq_true] at h
    exact .inr ⟨e, es, rfl, star_cons h.1, back_any h.2⟩
theorem hne_of {e : Expr} {es : List Expr} {env : PySem.Env} {pos : Pos} (h : nStars (e :: es) = true) : ∃ e' es', e :: es = e' :: es' ∧ starEach (e' :: es') env = (false, PySem.eval e' env) :: starEach es' env ∧ (backTo pos (starEach es' env)).any (·.1) = false := by
  simp only [nStars, List.all_cons, Bool.and_eq_true] at h
  exact ⟨e, es, rfl, star_cons h.1, back_any h.2⟩
def nCall : Expr → Bool
  | .Call _ _ _ _ => false
  | _ => true
theorem base_of {o : Expr} {m : Str} {env : PySem.Env} {whole : Sem Value} (h : nCall o = true) : attributeBase o m env whole = whole := by
  cases o <;> first | rfl | cases h
def nSlice : Expr → Bool
  | .Slice _ _ _ _ => false
  | _ => true
theorem ix_of {b : Expr} (h : nSlice b = true) : PlainIx b := by
  intro o i
  cases b <;> first | rfl | cases h
theorem set_of {o b : Expr} {p : Pos} {env : PySem.Env} {v : Value} (h : nSlice b = true) : assign (.Subscript o b p) env v = (do
      let ov ← holding [v] (PySem.eval o env)
      let iv ← holding [v, ov] (PySem.eval b env)
      standAt p
      holding [v, ov, iv] (setItem ov iv v)
      release [v, ov, iv] []) := by
  cases b <;> first | rfl | cases h
def nSet : Expr → Bool
  | .Set _ _ _ => false
  | _ => true
theorem fold_of {e : Expr} {env : PySem.Env} (h : nSet e = true) (x : Value) : foldedSetIterable e env x = pure x := by
  cases e <;> first | rfl | cases h
theorem marks_of {op : CmpOp} {b : Expr} (h : nSet b = true) : behindInMarks op b = false := by
  cases b <;> first | rfl | cases h
theorem lastm_of {o1 o2 : CmpOp} {b c : Expr} (h : nSet c = true) : lastMarks [o1, o2] [b, c] = false := by
  show behindInMarks o2 c = false
  exact marks_of h
def nComp : Expr → Bool
  | .ListComp _ _ _ _ => false
  | .SetComp _ _ _ _ => false
  | .DictComp _ _ _ _ _ => false
  | _ => true
theorem swaps_of {e : Expr} {t : Option Expr} {l : Nat} {env : PySem.Env} (h : nComp e = true) : swapsWith e t l env = pure false := by
  cases e <;> first | rfl | cases h
def isNameT : Expr → Bool
  | .Name _ _ => true
  | _ => false
def isSubT : Expr → Bool
  | .Subscript _ _ _ => true
  | _ => false
theorem stores_name {t e : Expr} {env : PySem.Env} (h : isNameT t = true) : swappedStores [t] e env = pure none := by
  cases t <;> first | rfl | cases h
theorem stores_sub {t e : Expr} {env : PySem.Env} (h : isSubT t = true) : swappedStores [t] e env = pure none := by
  cases t <;> first | rfl | cases h
def nTup : Expr → Bool
  | .Tuple _ _ _ => false
  | _ => true
theorem stores_of {t e : Expr} {env : PySem.Env} (h : nTup e = true) : swappedStores [t] e env = pure none := by
  unfold swappedStores
  cases t <;> cases e <;> first | rfl | cases h
def nTest : Expr → Bool
  | .UnaryOp .Not _ _ => false
  | .BoolOp _ _ _ => false
  | .IfExp _ _ _ _ => false
  | .Compare _ _ _ _ => false
  | _ => true
theorem isTrue_of {e : Expr} {env : PySem.Env} (h : nTest e = true) (whole : Sem Value) : isTrue e env whole = (do let v ← whole; standAt e.pos; holding [v] (truthy v)) := by
  cases e <;> first | rfl | (cases h; done) | skip
  rename_i op a p
  cases op <;> first | rfl | cases h
theorem assignEach_cons {e : Expr} {es : List Expr} {env : PySem.Env} (h : nStar e = true) : assignEach (e :: es) env = (false, assign e env) :: assignEach es env := by
  cases e <;> first | rfl | cases h
theorem few_of {es : List Expr} {env : PySem.Env} {pos : Pos} (h : nStars es = true) (hl : es.length < 29) : ((backTo pos (starEach es env)).all (fun x => !x.1) && (backToKw pos (keywordEach [] env)).all (fun x => x.1.isSome)
      && decide (es.length + ([] : List Keyword).length + (if ([] : List Keyword).isEmpty then 0 else 1) < 30)) = true := by
  rw [back_all h]
  show (true && true && decide (es.length + 0 + 0 < 30)) = true
  simp
  omega
theorem meth_of {o : Expr} {m : Str} {es : List Expr} {apos pos : Pos} {env : PySem.Env} (hb : nCall o = true) (h : nStars es = true) (hl : es.length < 29) (hline : (apos.endLine == pos.line) = true) :
    PySem.eval (.Call (.Attribute o m apos) es [] pos) env = (do
      let ov ← PySem.eval o env
      standAt apos.atName
      let (f, first) ← holding [ov] (getMethod ov m (do return (← importBound o env).getD true))
      callWith pos f first (backTo pos (starEach es env)) (backToKw pos (keywordEach [] env))) := by
  have hf : methodCallForm (es.length + ([] : List Keyword).length) (backTo pos (starEach es env)) (backToKw pos (keywordEach [] env)) = true := by
    unfold methodCallForm
    rw [back_all h]
    show (true && true && decide (es.length + 0 + 0 < 30)) = true
    simp
    omega
  rw [arm_eval_Call, base_of hb]
  unfold methodCall
  rw [hf]
  unfold calleeOf methodCallPos
  simp only [if_true, hline, Bool.not_true, Bool.false_or]
  rfl
end Fx

/-! The check that a literal is the text's, and that it then walks as it is told: expressions. -/
namespace Fx
open PySem PySem.Spec PyProof.Rows L2
/-- what a literal asks of the program -/
inductive Need where
  | call (x : Str) (f : Sem')
  | new (x : Str) (C : Nat) (f : Sem')
  | meth (C : Nat) (m : Str) (f : Sem')
  | prop (C : Nat) (m : Str) (f : Sem')
  | fld (C j : Nat) (m : Str)
  | fldS (C j : Nat) (m : Str)
  | gcon (x : Str) (d : Fx.D)
  | ccon (x : Str) (C : Nat) (m : Str) (d : Fx.D)
  | isi (t : Ty)
  | xfld (C j : Nat) (n : Str)
  | xis (y : Str) (C : Nat) (tab : List (Nat × Bool))
  | rse (x : Str) (C n : Nat)
  | catch_ (y : Str) (C : Nat) (tab : List (Nat × Bool))
  | newK (x : Str) (C : Nat) (f : Sem') (n : Nat) (kn : List Str)
  | rsT (x : Str) (C : Nat)
structure XisOk (g : Tab) (X : Cx) (y : Str) (C : Nat) (tab : List (Nat × Bool)) : Prop where
  mg : X.mg y = some (.ref (g.xa C))
  tab : ∀ C' b, tab.lookup C' = some b → XisC X.K (g.xa C') ∧ PySem.W.kitOne X.K (.ref (g.xa C')) (.ref (g.xa C)) = some b
structure CatchOk' (g : Tab) (X : Cx) (y : Str) (C : Nat) (tab : List (Nat × Bool)) : Prop where
  mg : X.mg y = some (.ref (g.xa C))
  exm : ∀ C' b, tab.lookup C' = some b → PySem.W.exmOne X.K (.ref (g.xa C')) (.ref (g.xa C)) = some b
/-- raise x(..): the error of the class C, its n fields the arguments -/
def RseOk (g : Tab) (X : Cx) (k : Nat) (x : Str) (C n : Nat) : Prop := (g.xf C).length = n ∧ 0 < n ∧ n ≤ 1000 ∧ ∀ (X' : Cx), X'.prog = X.prog → X'.w = X.w → X'.K = X.K → X'.mg = X.mg → X'.base = X.base → Room k X'.A → X'.calm = true → ∀ (e : Expr) (es : List Expr) (t : TA) (p pos : Pos), PA X' (e :: es) t → nStars (e :: es) = true → Gl X' x → PMk X' (.Call (.Name x p) (e :: es) [] pos) (tMkF (g.xa C) (g.xf C) t)
/-- a call by name that is f of its arguments: a built-in, a constant of another module -/
structure PrimOk (g : Tab) (X : Cx) (k : Nat) (x : Str) (f : Sem') : Prop where
  no : f [] = .no
  ex : ∀ X' : Cx, X'.prog = X.prog → X'.w = X.w → X'.K = X.K → X'.mg = X.mg → X'.base = X.base → Room k X'.A → X'.calm = true → X'.A.units + 65 < cLine → Gl X' x →
    ∀ (xo : XO) (F0 H0 : Hp) (W : WX) (es : List Expr) (fs : Env → R (List Val)) (p pos : Pos), Takes X' W → nStars es = true → es ≠ [] → SA g xo F0 H0 W X' es fs → SE g xo F0 H0 W X' (.Call (.Name x p) es [] pos) (fun env => (fs env).bind fun vs => f (vs.map toArg))
/-- raise x('..'): an own error without fields -/
structure RsTOk (g : Tab) (X : Cx) (x : Str) (C : Nat) : Prop where
  mg : X.mg x = some (.ref (g.xa C))
  own : PySem.W.excIn X.K (g.xa C) [.type "ValueError", .type "Exception", .type "BaseException", .type "object"] "ValueError.__new__" = true
  kp : PySem.W.keepIn X.K (.ref (g.xa C)) = true
  ex : PySem.W.subIn X.K (.ref (g.xa C)) (.type "BaseException") = some true
  ty : PySem.W.typeIn X.K (.ref (g.xa C)) = some (.type "type")
def NeedOk (g : Tab) (X : Cx) (k : Nat) : Need → Prop
  | .call x f => CallOk g X k x f ∨ PrimOk g X k x f
  | .newK x C f n kn => NewKOk g X k x C f n kn
  | .rsT x C => RsTOk g X x C
  | .new x C f => NewOk g X k x C f
  | .meth C m f => MethOk g X k C m f
  | .prop C m f => PropOk g X k C m f
  | .fld C j m => FldOk g X C j m
  | .fldS C j m => FldSet g X C j m
  | .gcon x d => ConOk g X x d
  | .ccon x C m d => CconOk g X x C m d
  | .isi t => IsiOk g X t
  | .xfld C j n => XfOk g X.K C j n
  | .xis y C tab => XisOk g X y C tab
  | .rse x C n => RseOk g X k x C n
  | .catch_ y C tab => CatchOk' g X y C tab
theorem need_cx {g : Tab} {X X' : Cx} {k : Nat} {n : Need} (h1 : X'.prog = X.prog) (h2 : X'.w = X.w) (h3 : X'.K = X.K) (h4 : X'.mg = X.mg) (h5 : X'.base = X.base) (h : NeedOk g X k n) : NeedOk g X' k n := by
  cases X
  cases X'
  simp only at h1 h2 h3 h4 h5
  subst h1 h2 h3 h4 h5
  cases n with
  | call x f =>
    rcases h with h | h
    · exact .inl ⟨h.ex⟩
    · exact .inr ⟨h.no, h.ex⟩
  | newK x C f n kn => exact ⟨h.ex, h.own⟩
  | rsT x C => exact ⟨h.mg, h.own, h.kp, h.ex, h.ty⟩
  | new x C f => exact ⟨h.ex, h.own⟩
  | meth C m f => exact ⟨h.ex⟩
  | prop C m f => exact ⟨h.ex⟩
  | fld C j m => exact ⟨h.cl, h.no, h.at_, h.nd⟩
  | fldS C j m => exact ⟨⟨h.ok.cl, h.ok.no, h.ok.at_, h.ok.nd⟩, h.few⟩
  | gcon x d => exact ⟨h.ex⟩
  | ccon x C m d => exact ⟨h.ex⟩
  | isi t => exact ⟨h.isi, h.bt, h.ct⟩
  | xfld C j n => exact h
  | xis y C tab => exact ⟨h.mg, h.tab⟩
  | rse x C n => exact h
  | catch_ y C tab => exact ⟨h.mg, h.exm⟩
mutual
def GoodE (ok : Need → Prop) : E → Prop
  | .var _ => True
  | .cint _ => True
  | .cbl _ => True
  | .cnon => True
  | .cstr _ => True
  | .gcon x d => ok (.gcon x d)
  | .ccon x C m d => ok (.ccon x C m d)
  | .bin _ a b => GoodE ok a ∧ GoodE ok b
  | .neg a => GoodE ok a
  | .inv a => GoodE ok a
  | .not a => GoodE ok a
  | .cmp _ a b => GoodE ok a ∧ GoodE ok b
  | .chain _ _ a b c => GoodE ok a ∧ GoodE ok b ∧ GoodE ok c
  | .isn a => GoodE ok a
  | .isnn a => GoodE ok a
  | .ands es => GoodEs ok es
  | .ors es => GoodEs ok es
  | .ife c a b => GoodE ok c ∧ GoodE ok a ∧ GoodE ok b
  | .tup es => GoodEs ok es
  | .lst es => GoodEs ok es
  | .call x f es => ok (.call x f) ∧ GoodEs ok es
  | .new x C f es => ok (.new x C f) ∧ GoodEs ok es
  | .meth C m f o es => ok (.meth C m f) ∧ GoodE ok o ∧ GoodEs ok es
  | .prop C m f o => ok (.prop C m f) ∧ GoodE ok o
  | .fld C j m o => ok (.fld C j m) ∧ GoodE ok o
  | .bi _ es => GoodEs ok es
  | .isi o t => ok (.isi t) ∧ GoodE ok o
  | .xfld _ n tab => ∀ C j, tab.lookup C = some j → ok (.xfld C j n)
  | .xis _ y C tab => ok (.xis y C tab)
  | .ix o i => GoodE ok o ∧ GoodE ok i
  | .slc o lo hi => GoodE ok o ∧ GoodEs ok lo ∧ GoodEs ok hi
  | .lc elt _ _ src ifs _ => GoodE ok elt ∧ GoodEs ok src ∧ GoodEs ok ifs
  | .newK x C f es kn ks => ok (.newK x C f es.length kn) ∧ GoodEs ok es ∧ GoodEs ok ks
  | .dnew => True
  | .disp k v => GoodE ok k ∧ GoodE ok v
  | .mrg a b => GoodE ok a ∧ GoodE ok b
  | .dc k v _ _ src _ => GoodE ok k ∧ GoodE ok v ∧ GoodEs ok src
  | .sset e _ _ src _ => GoodE ok e ∧ GoodEs ok src
  | .stl _ _ es => GoodEs ok es
  | .srev o => GoodE ok o
def GoodEs (ok : Need → Prop) : List E → Prop
  | [] => True
  | e :: es => GoodE ok e ∧ GoodEs ok es
end

/-! ### the check -/
def visB (sc : Scope) (x : Str) : Bool := match sc.names.lookup x with
  | some .local => true
  | some .cell => true
  | some .free => true
  | _ => false
def locB (sc : Scope) (x : Str) : Bool := match sc.names.lookup x with
  | some .local => true
  | some .cell => true
  | _ => false
def slotB (N : List Str) (sc : Scope) (x : Str) (i : Nat) : Bool := decide (N[i]? = some x) && visB sc x && !(x == ("__debug__" : Str)) && !(x == ("__classdict__" : Str))
def glB (sc : Scope) (x : Str) : Bool := decide (sc.names.lookup x = some .globalImplicit) && !(x == ("__debug__" : Str)) && !decide (x = "__name__")
def isLen : Bi → Bool
  | .len => true
  | _ => false
def isBi (x : Str) : Bool := decide (x ∈ ([ "len", "abs", "int", "bool", "all", "any", "sum", "tuple", "list", "sorted", "min", "max", "range", "enumerate", "zip", "reversed", "isinstance", "set", "dict", "frozenset" ] : List Str))
def chkL (f : E → Expr → Bool) : List E → List Expr → Bool
  | [], [] => true
  | e :: es, x :: xs => f e x && chkL f es xs
  | _, _ => false
def chkO (f : E → Expr → Bool) : List E → Option Expr → Bool
  | [], none => true
  | [e], some x => f e x
  | _, _ => false
mutual
def chkT (N : List Str) (sc : Scope) : T → Expr → Bool
  | .nm i, .Name x _ => decide (N[i]? = some x) && locB sc x
  | .tp ts, .Tuple es _ _ => nStars es && chkTs N sc ts es
  | _, _ => false
def chkTs (N : List Str) (sc : Scope) : List T → List Expr → Bool
  | [], [] => true
  | t :: ts, e :: es => chkT N sc t e && chkTs N sc ts es
  | _, _ => false
end
def isTup : Expr → Bool
  | .Tuple _ _ _ => true
  | _ => false
/-- what a for, a comprehension walks -/
def chkI (f : E → Expr → Bool) (sc : Scope) (tg : Expr) (k : SK) (src : List E) (iter : Expr) : Bool := match k with
  | .seq => match src with
    | [e] => f e iter
    | _ => false
  | .range => match iter with
    | .Call (.Name x _) xs [] _ => decide (x = "range") && glB sc x && nStars xs && decide (src.length = 1 ∨ src.length = 2) && chkL f src xs
    | _ => false
  | .enum => match iter with
    | .Call (.Name x _) xs [] _ => decide (x = "enumerate") && glB sc x && nStars xs && decide (src.length = 1) && isTup tg && chkL f src xs
    | _ => false
  | .zip => match iter with
    | .Call (.Name x _) xs [] _ => decide (x = "zip") && glB sc x && nStars xs && decide (src.length = 2) && isTup tg && chkL f src xs
    | _ => false
  | .rrng => match iter with
    | .Call (.Name y _) [.Call (.Name x _) [z] [] _] [] _ => decide (x = "range") && decide (y = "reversed") && glB sc x && glB sc y && nStar z && (match src with
      | [e] => f e z
      | _ => false)
    | _ => false
  | _ => false
/-- the items of a display, some with stars -/
def chkStl (f : E → Expr → Bool) : List Bool → List E → List Expr → Bool
  | [], [], [] => true
  | true :: bs, e :: es, .Starred x _ :: xs => f e x && chkStl f bs es xs
  | false :: bs, e :: es, x :: xs => nStar x && f e x && chkStl f bs es xs
  | _, _, _ => false
def kwNames : List Keyword → Option (List Str)
  | [] => some []
  | ⟨some x, _, _⟩ :: r => (kwNames r).map (x :: ·)
  | ⟨none, _, _⟩ :: _ => none
def natsB (N : List Str) (own : List Nat) : List (Str × Nat) := own.map fun i => (N[i]?.getD "", i)
def chkE : Nat → List Str → Scope → Bool → E → Expr → Bool
  | 0, _, _, _, _, _ => false
  | n + 1, N, sc, calm, e, ex => match e with
    | .var i => match ex with | .Name x _ => slotB N sc x i | _ => false
    | .cint i => match ex with | .Constant (.int j) _ _ => decide (i = j) | _ => false
    | .cbl i => match ex with | .Constant (.bool j) _ _ => decide (i = j) | _ => false
    | .cnon => match ex with | .Constant .none _ _ => true | _ => false
    | .cstr i => match ex with | .Constant (.str j) _ _ => decide (i = j) | _ => false
    | .gcon x _ => match ex with | .Name y _ => decide (x = y) && glB sc x | _ => false
    | .ccon x _ m _ => match ex with | .Attribute (.Name y _) m' _ => decide (x = y) && glB sc x && decide (m = m') | _ => false
    | .bin op a b => match ex with | .BinOp x o y _ => decide (o = opOf op) && chkE n N sc calm a x && chkE n N sc calm b y | _ => false
    | .neg a => match ex with | .UnaryOp o x _ => decide (o = .USub) && chkE n N sc calm a x | _ => false
    | .inv a => match ex with | .UnaryOp o x _ => decide (o = .Invert) && chkE n N sc calm a x | _ => false
    | .not a => match ex with | .UnaryOp o x _ => decide (o = .Not) && chkE n N sc calm a x | _ => false
    | .cmp op a b => match ex with | .Compare x [o] [y] _ => decide (o = copOf op) && nSet y && chkE n N sc calm a x && chkE n N sc calm b y | _ => false
    | .chain o1 o2 a b c => match ex with | .Compare x [p, q] [y, z] _ => decide (p = copOf o1) && decide (q = copOf o2) && nSet z && chkE n N sc calm a x && chkE n N sc calm b y && chkE n N sc calm c z | _ => false
    | .isn a => match ex with | .Compare x [o] [.Constant .none _ _] _ => decide (o = .Is) && chkE n N sc calm a x | _ => false
    | .isnn a => match ex with | .Compare x [o] [.Constant .none _ _] _ => decide (o = .IsNot) && chkE n N sc calm a x | _ => false
    | .ands es => match ex with | .BoolOp o xs _ => decide (o = .And) && !es.isEmpty && chkL (chkE n N sc calm) es xs | _ => false
    | .ors es => match ex with | .BoolOp o xs _ => decide (o = .Or) && !es.isEmpty && chkL (chkE n N sc calm) es xs | _ => false
    | .ife c a b => match ex with | .IfExp z x y _ => chkE n N sc calm c z && chkE n N sc calm a x && chkE n N sc calm b y | _ => false
    | .tup es => match ex with | .Tuple xs _ _ => nStars xs && chkL (chkE n N sc calm) es xs | _ => false
    | .lst es => match ex with | .List xs _ => nStars xs && chkL (chkE n N sc calm) es xs | _ => false
    | .call x _ es => match ex with | .Call (.Name y _) xs [] _ => calm && decide (x = y) && glB sc x && nStars xs && chkL (chkE n N sc calm) es xs | _ => false
    | .new x _ _ es => match ex with | .Call (.Name y _) xs [] _ => calm && decide (x = y) && glB sc x && nStars xs && chkL (chkE n N sc calm) es xs | _ => false
    | .meth _ m _ o es => match ex with | .Call (.Attribute z m' ap) xs [] p => calm && decide (m = m') && nCall z && decide (xs.length < 29) && (ap.endLine == p.line) && nStars xs && chkE n N sc calm o z && chkL (chkE n N sc calm) es xs | _ => false
    | .prop _ m _ o => match ex with | .Attribute z m' _ => calm && decide (m = m') && nCall z && chkE n N sc calm o z | _ => false
    | .fld _ _ m o => match ex with | .Attribute z m' _ => decide (m = m') && nCall z && chkE n N sc calm o z | _ => false
    | .bi b es => match ex with | .Call (.Name y _) xs [] _ => (calm || isLen b) && decide (y = biName b) && biDone b && glB sc y && !es.isEmpty && nStars xs && chkL (chkE n N sc calm) es xs | _ => false
    | .isi o t => match ex with | .Call (.Name y _) [z, .Name u _] [] _ => decide (y = "isinstance") && decide (u = tyName t) && glB sc y && glB sc u && nStar z && chkE n N sc calm o z | _ => false
    | .xfld i m _ => match ex with | .Attribute (.Name y _) m' _ => decide (m = m') && slotB N sc y i | _ => false
    | .xis i u _ _ => match ex with | .Call (.Name y _) [.Name z _, .Name u' _] [] _ => decide (y = "isinstance") && decide (u = u') && glB sc y && glB sc u && slotB N sc z i | _ => false
    | .ix o i => match ex with | .Subscript x y _ => nSlice y && chkE n N sc calm o x && chkE n N sc calm i y | _ => false
    | .slc o lo hi => match ex with | .Subscript x (.Slice l h none _) _ => chkE n N sc calm o x && chkO (chkE n N sc calm) lo l && chkO (chkE n N sc calm) hi h | _ => false
    | .lc elt t k src ifs own => match ex with
      | .ListComp y [⟨tg, iter, fs, a⟩] scope _ => calm && decide (a = 0) && blkC N sc scope (natsB N own) && nSet iter && chkI (chkE n N sc calm) sc tg k src iter && chkT N scope t tg && decide (ifs.length ≤ 1) && chkL (chkE n N (relS scope sc) calm) ifs fs && chkE n N (relS scope sc) calm elt y && t.slots.all (fun i => decide (i ∈ own))
      | _ => false
    | .newK x _ _ es kn ks => match ex with | .Call (.Name y _) xs (kw :: kws) _ => calm && decide (x = y) && glB sc x && nStars xs && !es.isEmpty && chkL (chkE n N sc calm) es xs && decide (kwNames (kw :: kws) = some kn) && chkL (chkE n N sc calm) ks ((kw :: kws).map (·.value)) | _ => false
    | .dnew => match ex with | .Dict [] [] _ => true | _ => false
    | .disp k v => match ex with | .Dict [some x] [y] _ => chkE n N sc calm k x && chkE n N sc calm v y | _ => false
    | .dc k v t sk src own => match ex with
      | .DictComp x y [⟨tg, iter, [], a⟩] scope _ => calm && decide (a = 0) && blkC N sc scope (natsB N own) && nSet iter && chkI (chkE n N sc calm) sc tg sk src iter && chkT N scope t tg && chkE n N (relS scope sc) calm k x && chkE n N (relS scope sc) calm v y && t.slots.all (fun i => decide (i ∈ own))
      | _ => false
    | .stl tp bs es => match ex with
      | .List xs _ => !tp && chkStl (chkE n N sc calm) bs es xs
      | .Tuple xs _ _ => tp && chkStl (chkE n N sc calm) bs es xs
      | _ => false
    | .srev o => match ex with | .Subscript x (.Slice none none (some (.UnaryOp u (.Constant (.int j) _ _) _)) _) _ => decide (u = .USub) && decide (j = 1) && chkE n N sc calm o x | _ => false
    | _ => false
end Fx

namespace Fx
open PySem PySem.Spec PyProof.Rows L2
/-- a place where literals are walked -/
structure Cok (g : Tab) (ok : Need → Prop) (k : Nat) (xo : XO) (W : WX) (X : Cx) (N : List Str) (sc : Scope) (calm : Bool) : Prop where
  N_eq : X.N = N
  nd : N.Nodup
  sc_eq : X.env.scope = sc
  kind : sc.kind = .function
  xcx : XCx g xo X
  bi : ∀ x, isBi x = true → X.mg x = none
  units : X.A.units + 65 < cLine
  wd : g.wd = X.w
  need : ∀ n, ok n → NeedOk g X k n
  calm : calm = true → X.calm = true ∧ Room k X.A ∧ Takes X W ∧ xo.x = none
/-- .. of targets -/
structure TCok (X : Cx) (N : List Str) (sc : Scope) : Prop where
  N_eq : X.N = N
  nd : N.Nodup
  loc : ∀ x, locB sc x = true → Loc X.env.scope x ∧ (X.fn x = true ∨ X.env.scope.names.lookup x = some .local)
  calm : X.calm = true
structure SB (g : Tab) (xo : XO) (F0 H0 : Hp) (W : WX) (X : Cx) (ex : Expr) (f : Env → Fx.R Val) : Prop where
  se : SE g xo F0 H0 W X ex f
  st : STs g xo F0 H0 W X ex (fun env => (f env).bind fun v => asB v.2)
theorem locB_loc {sc : Scope} {x : Str} (h : locB sc x = true) : Loc sc x := by
  unfold locB at h
  split at h
  · rename_i e; exact .inl e
  · rename_i e; exact .inr e
  · cases h
theorem visB_vis {sc : Scope} {x : Str} (h : visB sc x = true) : Vis sc x := by
  unfold visB at h
  split at h
  · rename_i e; exact .inl e
  · rename_i e; exact .inr (.inl e)
  · rename_i e; exact .inr (.inr e)
  · cases h
section
variable {g : Tab} {ok : Need → Prop} {k : Nat} {xo : XO} {F0 H0 : Hp} {W : WX} {X : Cx} {N : List Str} {sc : Scope} {calm : Bool}
theorem slot_of (c : Cok g ok k xo W X N sc calm) {x : Str} {i : Nat} (h : slotB N sc x i = true) : X.N[i]? = some x ∧ Vis X.env.scope x ∧ (x == ("__debug__" : Str)) = false ∧ (x == ("__classdict__" : Str)) = false := by
  simp only [slotB, Bool.and_eq_true, decide_eq_true_eq, Bool.not_eq_true'] at h
  obtain ⟨⟨⟨h1, h2⟩, h3⟩, h4⟩ := h
  exact ⟨by rw [c.N_eq]; exact h1, by rw [c.sc_eq]; exact visB_vis h2, h3, h4⟩
theorem gl_of (c : Cok g ok k xo W X N sc calm) {x : Str} (h : glB sc x = true) : Gl X x ∧ (x == ("__debug__" : Str)) = false ∧ x ≠ "__name__" := by
  simp only [glB, Bool.and_eq_true, decide_eq_true_eq, Bool.not_eq_true', decide_eq_false_iff_not] at h
  obtain ⟨⟨h1, h2⟩, h3⟩ := h
  exact ⟨by unfold Gl PySem.Env.kindOf; rw [c.sc_eq]; exact h1, h2, h3⟩
theorem SB.plain {ex : Expr} {f : Env → Fx.R Val} (h : SE g xo F0 H0 W X ex f) (ht : nTest ex = true) : SB g xo F0 H0 W X ex f := ⟨h, st_plain h fun whole => isTrue_of ht whole⟩
theorem SB.cast {ex : Expr} {f f' : Env → Fx.R Val} (h : SB g xo F0 H0 W X ex f) (e : ∀ env, f env = f' env) : SB g xo F0 H0 W X ex f' := by
  have : f = f' := funext e
  rw [← this]; exact h
/-! ### lists -/
theorem snd_L {f : E → Expr → Bool} (hP : ∀ e ex, f e ex = true → GoodE ok e → SB g xo F0 H0 W X ex (eval e)) : ∀ {es : List E} {xs : List Expr}, chkL f es xs = true → nStars xs = true → GoodEs ok es → SA g xo F0 H0 W X xs (evals es)
  | [], [], _, _, _ => by
    have : (fun _ => Fx.R.ok []) = evals [] := by funext env; simp only [evals]
    rw [← this]
    exact sa_nil
  | [], _ :: _, h, _, _ => by cases h
  | _ :: _, [], h, _, _ => by cases h
  | e :: es, x :: xs, h, hs, gd => by
    simp only [chkL, Bool.and_eq_true] at h
    simp only [nStars, List.all_cons, Bool.and_eq_true] at hs
    simp only [GoodEs] at gd
    have : (fun env => (eval e env).bind fun v => (evals es env).bind fun vs => Fx.R.ok (pas v :: vs)) = evals (e :: es) := by funext env; simp only [evals]
    rw [← this]
    exact sa_cons (hP e x h.1 gd.1).se (snd_L hP h.2 hs.2 gd.2) (star_cons hs.1)
theorem snd_ands {f : E → Expr → Bool} (hP : ∀ e ex, f e ex = true → GoodE ok e → SB g xo F0 H0 W X ex (eval e)) : ∀ {e : E} {es : List E} {xs : List Expr} {pos : Pos}, chkL f (e :: es) xs = true → GoodEs ok (e :: es) →
    SE g xo F0 H0 W X (.BoolOp .And xs pos) (evalAnds (e :: es)) ∧ SW g xo F0 H0 W X (.BoolOp .And xs pos) (fun env => (evalAnds (e :: es) env).bind fun v => asB v.2)
  | e, es, [], pos, h, _ => by cases h
  | e, [], [x], pos, h, gd => by
    simp only [chkL, Bool.and_eq_true] at h
    simp only [GoodEs] at gd
    have q := hP e x h.1 gd.1
    have e1 : (fun env => (eval e env).bind fun x => (asB x.2).bind fun b => Fx.R.ok (Mode.frz, Fx.D.bl b)) = evalAnds [e] := by funext env; simp only [evalAnds]
    refine ⟨by rw [← e1]; exact se_one q.se, ?_⟩
    have e2 : (fun env => (eval e env).bind fun v => asB v.2) = fun env => (evalAnds [e] env).bind fun v => asB v.2 := by
      funext env
      rw [← e1]; dsimp only
      cases eval e env with
      | ok mv => simp only [Fx.R.bind_ok]; cases asB mv.2 <;> rfl
      | _ => rfl
    rw [← e2]
    exact sw_and1 q.st
  | e, [], x :: y :: xs, pos, h, _ => by simp only [chkL, Bool.and_eq_true] at h; exact absurd h.2 (by simp)
  | e, e' :: es, [x], pos, h, _ => by simp only [chkL, Bool.and_eq_true] at h; exact absurd h.2 (by simp)
  | e, e' :: es, x :: y :: xs, pos, h, gd => by
    have h' : f e x = true ∧ chkL f (e' :: es) (y :: xs) = true := by simpa only [chkL, Bool.and_eq_true] using h
    have gd' : GoodE ok e ∧ GoodEs ok (e' :: es) := by simpa only [GoodEs] using gd
    have q := hP e x h'.1 gd'.1
    have r := snd_ands hP (pos := pos) h'.2 gd'.2
    have e1 : (fun env => (eval e env).bind fun x => (asB x.2).bind fun b => if b then evalAnds (e' :: es) env else Fx.R.ok (Mode.frz, Fx.D.bl false)) = evalAnds (e :: e' :: es) := by funext env; rw [evalAnds]
    refine ⟨by rw [← e1]; exact se_and q.se r.1, ?_⟩
    have e2 : (fun env => ((eval e env).bind fun v => asB v.2).bind fun b => if b then (evalAnds (e' :: es) env).bind (fun v => asB v.2) else Fx.R.ok false) = fun env => (evalAnds (e :: e' :: es) env).bind fun v => asB v.2 := by
      funext env
      rw [← e1]; dsimp only
      cases eval e env with
      | ok mv =>
        simp only [Fx.R.bind_ok]
        cases asB mv.2 with
        | ok b => simp only [Fx.R.bind_ok]; cases b <;> rfl
        | _ => rfl
      | _ => rfl
    rw [← e2]
    exact sw_and q.st r.2
theorem snd_ors {f : E → Expr → Bool} (hP : ∀ e ex, f e ex = true → GoodE ok e → SB g xo F0 H0 W X ex (eval e)) : ∀ {e : E} {es : List E} {xs : List Expr} {pos : Pos}, chkL f (e :: es) xs = true → GoodEs ok (e :: es) →
    SE g xo F0 H0 W X (.BoolOp .Or xs pos) (evalOrs (e :: es)) ∧ SW g xo F0 H0 W X (.BoolOp .Or xs pos) (fun env => (evalOrs (e :: es) env).bind fun v => asB v.2)
  | e, es, [], pos, h, _ => by cases h
  | e, [], [x], pos, h, gd => by
    simp only [chkL, Bool.and_eq_true] at h
    simp only [GoodEs] at gd
    have q := hP e x h.1 gd.1
    have e1 : (fun env => (eval e env).bind fun x => (asB x.2).bind fun b => Fx.R.ok (Mode.frz, Fx.D.bl b)) = evalOrs [e] := by funext env; simp only [evalOrs]
    refine ⟨by rw [← e1]; exact se_one q.se, ?_⟩
    have e2 : (fun env => (eval e env).bind fun v => asB v.2) = fun env => (evalOrs [e] env).bind fun v => asB v.2 := by
      funext env
      rw [← e1]; dsimp only
      cases eval e env with
      | ok mv => simp only [Fx.R.bind_ok]; cases asB mv.2 <;> rfl
      | _ => rfl
    rw [← e2]
    exact sw_or1 q.st
  | e, [], x :: y :: xs, pos, h, _ => by simp only [chkL, Bool.and_eq_true] at h; exact absurd h.2 (by simp)
  | e, e' :: es, [x], pos, h, _ => by simp only [chkL, Bool.and_eq_true] at h; exact absurd h.2 (by simp)
  | e, e' :: es, x :: y :: xs, pos, h, gd => by
    have h' : f e x = true ∧ chkL f (e' :: es) (y :: xs) = true := by simpa only [chkL, Bool.and_eq_true] using h
    have gd' : GoodE ok e ∧ GoodEs ok (e' :: es) := by simpa only [GoodEs] using gd
    have q := hP e x h'.1 gd'.1
    have r := snd_ors hP (pos := pos) h'.2 gd'.2
    have e1 : (fun env => (eval e env).bind fun x => (asB x.2).bind fun b => if b then Fx.R.ok (Mode.frz, Fx.D.bl true) else evalOrs (e' :: es) env) = evalOrs (e :: e' :: es) := by funext env; rw [evalOrs]
    refine ⟨by rw [← e1]; exact se_or q.se r.1, ?_⟩
    have e2 : (fun env => ((eval e env).bind fun v => asB v.2).bind fun b => if b then Fx.R.ok true else (evalOrs (e' :: es) env).bind (fun v => asB v.2)) = fun env => (evalOrs (e :: e' :: es) env).bind fun v => asB v.2 := by
      funext env
      rw [← e1]; dsimp only
      cases eval e env with
      | ok mv =>
        simp only [Fx.R.bind_ok]
        cases asB mv.2 with
        | ok b => simp only [Fx.R.bind_ok]; cases b <;> rfl
        | _ => rfl
      | _ => rfl
    rw [← e2]
    exact sw_or q.st r.2
/-! ### targets -/
mutual
theorem snd_T (c : TCok X N sc) : ∀ (t : T) (ex : Expr), chkT N sc t ex = true → PG X ex (TGo X.K g xo F0 H0 t)
  | .nm i, ex, h => by
    unfold chkT at h
    split at h
    · rename_i i' x p e1
      cases e1
      simp only [Bool.and_eq_true, decide_eq_true_eq] at h
      have l := c.loc x h.2
      exact sg_nm (by rw [c.N_eq]; exact c.nd) (by rw [c.N_eq]; exact h.1) l.1 l.2
    · rename_i e1; cases e1
    · cases h
  | .tp ts, ex, h => by
    unfold chkT at h
    split at h
    · rename_i e1; cases e1
    · rename_i ts' es k p e1
      cases e1
      simp only [Bool.and_eq_true] at h
      obtain ⟨h1, h2, h3⟩ := snd_Ts c ts es h.1 h.2
      exact sg_tp c.calm h1 h2 h3
    · cases h
theorem snd_Ts (c : TCok X N sc) : ∀ (ts : List T) (es : List Expr), nStars es = true → chkTs N sc ts es = true → PGs X es (TGso X.K g xo F0 H0 ts) ∧ (assignEach es X.env).length = ts.length ∧ (assignEach es X.env).findIdx? (·.1) = none
  | [], [], _, _ => ⟨sgs_nil, rfl, rfl⟩
  | [], _ :: _, _, h => by unfold chkTs at h; cases h
  | _ :: _, [], _, h => by unfold chkTs at h; cases h
  | t :: ts, e :: es, hs, h => by
    unfold chkTs at h
    simp only [Bool.and_eq_true] at h
    simp only [nStars, List.all_cons, Bool.and_eq_true] at hs
    have a := snd_T c t e h.1
    obtain ⟨b1, b2, b3⟩ := snd_Ts c ts es hs.2 h.2
    refine ⟨sgs_cons a b1 (by rw [assignEach_cons hs.1]; rfl), by rw [assignEach_cons hs.1, List.length_cons, b2, List.length_cons], ?_⟩
    rw [assignEach_cons hs.1, List.findIdx?_cons]
    simp only [Bool.false_eq_true, if_false, b3]
    rfl
end
end
end Fx

namespace Fx
open PySem PySem.Spec PyProof.Rows L2
/-- what a for's or a comprehension's source gives -/
def srcF (lend : Bool) (k : SK) (src : List E) (env : Env) : Fx.R (List Fx.D) := (evals src env).bind fun vs => (selV lend vs).bind fun ds => srcItems k ds
theorem evals_one {e : E} : (fun env => (eval e env).bind fun v => Fx.R.ok [pas v]) = evals [e] := by
  funext env
  simp only [evals]
  cases eval e env <;> rfl
section
variable {g : Tab} {ok : Need → Prop} {k : Nat} {xo : XO} {F0 H0 : Hp} {W : WX} {X : Cx} {N : List Str} {sc : Scope} {calm : Bool}
theorem evals_len : ∀ {es : List E} {env : Env} {vs : List Val}, evals es env = .ok vs → vs.length = es.length
  | [], env, vs, h => by simp only [evals] at h; cases h; rfl
  | e :: es, env, vs, h => by
    simp only [evals] at h
    cases q : eval e env with
    | ok v =>
      rw [q, Fx.R.bind_ok] at h
      cases q2 : evals es env with
      | ok ws => rw [q2, Fx.R.bind_ok] at h; cases h; simp [evals_len q2]
      | ex C fs => rw [q2] at h; cases h
      | no => rw [q2] at h; cases h
    | ex C fs => rw [q] at h; cases h
    | no => rw [q] at h; cases h
theorem snd_I {f : E → Expr → Bool} {lend : Bool} (c : Cok g ok k xo W X N sc calm) (hP : ∀ e ex, f e ex = true → GoodE ok e → SB g xo F0 H0 W X ex (eval e)) {tg iter : Expr} {sk : SK} {src : List E} (h : chkI f sc tg sk src iter = true) (gd : GoodEs ok src) :
    PI X tg iter (TIo X.K g xo F0 H0 W lend (srcF lend sk src)) := by
  unfold chkI at h
  split at h
  · -- seq
    split at h
    · rename_i e
      simp only [GoodEs] at gd
      have q := si_seq (tg := tg) (lend := lend) (hP e iter h gd.1).se
      have e1 : (fun env => ((eval e env).bind fun v => Fx.R.ok [pas v]).bind fun vs => (selV lend vs).bind fun ds => srcItems .seq ds) = srcF lend .seq [e] := by
        funext env
        unfold srcF
        rw [← evals_one]
      rw [← e1]
      exact q
    · cases h
  · -- range
    split at h
    · rename_i x p xs pos
      simp only [Bool.and_eq_true, decide_eq_true_eq] at h
      obtain ⟨⟨⟨⟨rfl, h2⟩, h3⟩, h4⟩, h5⟩ := h
      obtain ⟨hg, _⟩ := gl_of c h2
      have sa := snd_L hP h5 h3 gd
      have hm := c.bi "range" (by decide)
      match src, xs, h4, h5, h3, sa with
      | [a], [x], _, _, h3, sa =>
        have h3 : nStar x = true ∧ True := by simpa [nStars] using h3
        have q := si_range1 (tg := tg) (lend := lend) (pos := pos) (p := p) hg hm (star_cons h3.1) sa
        have e1 : (fun env => (evals [a] env).bind fun vs => (selV lend vs).bind fun ds => match ds with | [d] => srcItems .range [d] | _ => .no) = srcF lend .range [a] := by
          funext env
          unfold srcF
          cases q1 : evals [a] env with
          | ok vs =>
            have hl := evals_len q1
            simp only [Fx.R.bind_ok]
            cases q2 : selV lend vs with
            | ok ds =>
              simp only [Fx.R.bind_ok]
              have hl2 := (sel_len q2).1
              match ds, hl2 with
              | [d], _ => rfl
              | [], e => rw [hl] at e; cases e
              | _ :: _ :: _, e => rw [hl] at e; simp at e
            | ex C fs => rfl
            | no => rfl
          | ex C fs => rfl
          | no => rfl
        rw [← e1]
        exact q
      | [a, b], [x, y], _, _, h3, sa =>
        have h3 : nStar x = true ∧ nStar y = true := by simpa [nStars] using h3
        have q := si_range2 (tg := tg) (lend := lend) (pos := pos) (p := p) hg hm (by rw [star_cons h3.1, star_cons h3.2]; rfl) (star_cons h3.2) sa
        have e1 : (fun env => (evals [a, b] env).bind fun vs => (selV lend vs).bind fun ds => match ds with | [d, d'] => srcItems .range [d, d'] | _ => .no) = srcF lend .range [a, b] := by
          funext env
          unfold srcF
          cases q1 : evals [a, b] env with
          | ok vs =>
            have hl := evals_len q1
            simp only [Fx.R.bind_ok]
            cases q2 : selV lend vs with
            | ok ds =>
              simp only [Fx.R.bind_ok]
              have hl2 := (sel_len q2).1
              match ds, hl2 with
              | [d, d'], _ => rfl
              | [], e => rw [hl] at e; cases e
              | [_], e => rw [hl] at e; cases e
              | _ :: _ :: _ :: _, e => rw [hl] at e; simp at e
            | ex C fs => rfl
            | no => rfl
          | ex C fs => rfl
          | no => rfl
        rw [← e1]
        exact q
      | [], _, h4, _, _, _ => simp at h4
      | _ :: _ :: _ :: _, _, h4, _, _, _ => simp at h4
      | [_], [], _, h5, _, _ => cases h5
      | [_], _ :: _ :: _, _, h5, _, _ => simp [chkL] at h5
      | [_, _], [], _, h5, _, _ => cases h5
      | [_, _], [_], _, h5, _, _ => simp [chkL] at h5
      | [_, _], _ :: _ :: _ :: _, _, h5, _, _ => simp [chkL] at h5
    · cases h
  · -- enumerate
    split at h
    · rename_i x p xs pos
      simp only [Bool.and_eq_true, decide_eq_true_eq] at h
      obtain ⟨⟨⟨⟨⟨rfl, h2⟩, h3⟩, h4⟩, h5⟩, h6⟩ := h
      obtain ⟨hg, _⟩ := gl_of c h2
      have hm := c.bi "enumerate" (by decide)
      match src, xs, h4, h6, h3 with
      | [a], [x], _, h6, h3 =>
        have h3 : nStar x = true ∧ True := by simpa [nStars] using h3
        simp only [chkL, Bool.and_eq_true] at h6
        simp only [GoodEs] at gd
        cases tg with
        | Tuple elts kk tpos =>
          have q := si_enum (lend := lend) (elts := elts) (kk := kk) (tpos := tpos) (pos := pos) (p := p) hg hm (star_cons h3.1) (hP a x h6.1 gd.1).se
          have e1 : (fun env => ((eval a env).bind fun v => Fx.R.ok [pas v]).bind fun vs => (selV lend vs).bind fun ds => srcItems .enum ds) = srcF lend .enum [a] := by
            funext env
            unfold srcF
            rw [← evals_one]
          rw [← e1]
          exact q
        | _ => cases h5
      | [], _, h4, _, _ => simp at h4
      | _ :: _ :: _, _, h4, _, _ => simp at h4
      | [_], [], _, h6, _ => cases h6
      | [_], _ :: _ :: _, _, h6, _ => simp [chkL] at h6
    · cases h
  · -- zip
    split at h
    · rename_i x p xs pos
      simp only [Bool.and_eq_true, decide_eq_true_eq] at h
      obtain ⟨⟨⟨⟨⟨rfl, h2⟩, h3⟩, h4⟩, h5⟩, h6⟩ := h
      obtain ⟨hg, _⟩ := gl_of c h2
      have hm := c.bi "zip" (by decide)
      have sa := snd_L hP h6 h3 gd
      match src, xs, h4, h6, h3, sa with
      | [a, b], [x, y], _, _, h3, sa =>
        have h3 : nStar x = true ∧ nStar y = true := by simpa [nStars] using h3
        cases tg with
        | Tuple elts kk tpos =>
          exact si_zip (lend := lend) (elts := elts) (kk := kk) (tpos := tpos) (pos := pos) (p := p) hg hm (star_cons h3.1) (by rw [star_cons h3.2]; rfl) sa (fun env vs e => evals_len e)
        | _ => cases h5
      | [], _, h4, _, _, _ => simp at h4
      | _ :: _ :: _ :: _, _, h4, _, _, _ => simp at h4
      | [_], _, h4, _, _, _ => simp at h4
      | [_, _], [], _, h6, _, _ => cases h6
      | [_, _], [_], _, h6, _, _ => simp [chkL] at h6
      | [_, _], _ :: _ :: _ :: _, _, h6, _, _ => simp [chkL] at h6
    · cases h
  · -- reversed(range(..))
    split at h
    · rename_i y py x px z pos1 pos2
      simp only [Bool.and_eq_true, decide_eq_true_eq] at h
      obtain ⟨⟨⟨⟨⟨rfl, rfl⟩, h2⟩, h3⟩, h4⟩, h5⟩ := h
      obtain ⟨hg, _⟩ := gl_of c h2
      obtain ⟨hgr, _⟩ := gl_of c h3
      split at h5
      · rename_i e
        simp only [GoodEs] at gd
        have q := si_rrng (tg := tg) (lend := lend) (p := px) (pos := pos1) (p2 := py) (pos2 := pos2) hg (c.bi "range" (by decide)) hgr (c.bi "reversed" (by decide)) (star_cons h4) (hP e z h5 gd.1).se
        have e1 : (fun env => ((eval e env).bind fun v => Fx.R.ok [pas v]).bind fun vs => (selV lend vs).bind fun ds => srcItems .rrng ds) = srcF lend .rrng [e] := by
          funext env
          unfold srcF
          rw [← evals_one]
        rw [← e1]
        exact q
      · cases h5
    · cases h
  · cases h
/-- a comprehension's block -/
theorem Cok.blk (c : Cok g ok k xo W X N sc calm) (hc : calm = true) {scope : Scope} {own : List (Str × Nat)} (hb : BlkOk N sc scope own) (s : Shared) (H : Hp) (C : Addr) (cl : List (Str × Addr)) (fp : List Addr) : Cok g ok k ⟨none, xo.pin⟩ noW (X.blk s H scope (compEnvC scope cl C X.env) fp) N (relS scope sc) calm where
  N_eq := c.N_eq
  nd := c.nd
  sc_eq := by rw [← c.sc_eq]; rfl
  kind := hb.kind
  xcx := .none _ _
  bi := c.bi
  units := c.units
  wd := c.wd
  need := fun n hn => need_cx (X := X) rfl rfl rfl rfl rfl (c.need n hn)
  calm := fun _ => ⟨(c.calm hc).1, (c.calm hc).2.1, takes0, rfl⟩
theorem Cok.tblk (c : Cok g ok k xo W X N sc calm) (hc : calm = true) {scope : Scope} {own : List (Str × Nat)} (hb : BlkOk N sc scope own) (s : Shared) (H : Hp) (C : Addr) (cl : List (Str × Addr)) (fp : List Addr) : TCok (X.blk s H scope (compEnvC scope cl C X.env) fp) N scope where
  N_eq := c.N_eq
  nd := c.nd
  loc := fun x hx => by
    have e : (X.blk s H scope (compEnvC scope cl C X.env) fp).env.scope = relS scope X.env.scope := rfl
    rw [e]
    unfold locB at hx
    split at hx
    · rename_i q
      have r := lookup_relS_keep (sc := X.env.scope) (by decide) q
      exact ⟨.inl r, .inr r⟩
    · rename_i q
      have r := lookup_relS_keep (sc := X.env.scope) (by decide) q
      exact ⟨.inr r, .inl (by show (scope.names.lookup x == some .cell) = true; rw [q]; decide)⟩
    · cases hx
  calm := (c.calm hc).1
theorem lcF_eq {t : T} {sk : SK} {src ifs : List E} {elt : E} {own : List Nat} : lcF (srcF true sk src) t own (evalIfs ifs) (eval elt) = eval (.lc elt t sk src ifs own) := by
  funext env
  simp only [eval, lcF, srcF, selV, if_true, Fx.R.bind_assoc, Fx.R.bind_ok]
theorem natsB_snd {own : List Nat} : (natsB N own).map (·.2) = own := by
  unfold natsB
  rw [List.map_map]
  exact List.map_id own
theorem snd_lc {f f' : E → Expr → Bool} (c : Cok g ok k xo W X N sc calm) (hc : calm = true) (hP : ∀ e ex, f e ex = true → GoodE ok e → SB g xo F0 H0 W X ex (eval e)) {elt : E} {t : T} {sk : SK} {src ifs : List E} {own : List Nat} {y tg iter : Expr} {fs : List Expr} {scope : Scope}
    (hB : ∀ (X' : Cx) (F0 : Hp), Cok g ok k ⟨none, xo.pin⟩ noW X' N (relS scope sc) calm → ∀ e ex, f' e ex = true → GoodE ok e → SB g ⟨none, xo.pin⟩ F0 H0 noW X' ex (eval e))
    (h1 : blkC N sc scope (natsB N own) = true) (h2 : nSet iter = true) (h3 : chkI f sc tg sk src iter = true) (h4 : chkT N scope t tg = true) (h5 : ifs.length ≤ 1) (h6 : chkL f' ifs fs = true) (h7 : f' elt y = true) (h8 : t.slots.all (fun i => decide (i ∈ own)) = true)
    (g1 : GoodE ok elt) (g2 : GoodEs ok src) (g3 : GoodEs ok ifs) :
    ∃ ownN : List (Str × Nat), ownN.map (·.2) = own ∧ BlkOk X.N X.env.scope scope ownN ∧ xo.x = none ∧ PI X tg iter (TIo X.K g xo F0 H0 W true (srcF true sk src)) ∧
      (∀ (s : Shared) (H : Hp) (C : Addr) (cl : List (Str × Addr)) (fp : List Addr) F0, PG (X.blk s H scope (compEnvC scope cl C X.env) fp) tg (TGo X.K g xo F0 H0 t)) ∧
      (∀ (s : Shared) (H : Hp) (C : Addr) (cl : List (Str × Addr)) (fp : List Addr) F0, PTs (X.blk s H scope (compEnvC scope cl C X.env) fp) fs (TTo X.K g xo F0 H0 noW (evalIfs ifs))) ∧
      (∀ (s : Shared) (H : Hp) (C : Addr) (cl : List (Str × Addr)) (fp : List Addr) F0, PE (X.blk s H scope (compEnvC scope cl C X.env) fp) y (TEo X.K g xo F0 H0 noW (eval elt))) ∧ (∀ x, foldedSetIterable iter X.env x = pure x) ∧ (∀ i ∈ t.slots, i ∈ ownN.map (·.2)) := by
  have hb := blkOk_by h1
  have hx := (c.calm hc).2.2.2
  obtain ⟨x, pin⟩ := xo
  obtain rfl : x = none := hx
  refine ⟨natsB N own, natsB_snd, by rw [c.N_eq, c.sc_eq]; exact hb, rfl, snd_I c hP h3 g2, fun s H C cl fp F0 => ?_, fun s H C cl fp F0 => ?_, fun s H C cl fp F0 => ?_, fun x => fold_of h2 x, ?_⟩
  · exact snd_T (c.tblk hc hb s H C cl fp) t tg h4
  · have cb := c.blk hc hb s H C cl fp
    match ifs, fs, h5, h6, g3 with
    | [], [], _, _, _ =>
      have e1 : (fun _ => Fx.R.ok true) = evalIfs [] := by funext env; simp only [evalIfs]
      rw [← e1]
      exact pts_nil'
    | [e], [x], _, h6, g3 =>
      simp only [chkL, Bool.and_eq_true] at h6
      simp only [GoodEs] at g3
      have q := (hB _ F0 cb e x h6.1 g3.1).st
      have e1 : (fun env => (eval e env).bind fun v => asB v.2) = evalIfs [e] := by
        funext env
        simp only [evalIfs]
        cases eval e env with
        | ok mv => simp only [Fx.R.bind_ok]; cases asB mv.2 <;> rfl
        | _ => rfl
      rw [← e1]
      exact pts_one q
    | [], _ :: _, _, h6, _ => cases h6
    | [_], [], _, h6, _ => cases h6
    | [_], _ :: _ :: _, _, h6, _ => simp [chkL] at h6
    | _ :: _ :: _, _, h5, _, _ => simp at h5
  · exact (hB _ F0 (c.blk hc hb s H C cl fp) elt y h7 g1).se
  · rw [natsB_snd]
    intro i hi
    exact of_decide_eq_true (List.all_eq_true.mp h8 i hi)
end
end Fx

namespace Fx
open PySem PySem.Spec PyProof.Rows L2
section
variable {g : Tab} {xo : XO} {F0 H0 : Hp} {W : WX} {X : Cx} {es : List Expr} {pos p : Pos} {fs : Env → Fx.R (List Val)}
theorem se_bi' {bi : Bi} (hw : g.wd = X.w) (hok : biDone bi = true) (hcl : isLen bi = false → X.calm = true) (hg : Gl X (biName bi)) (hm : X.mg (biName bi) = none) (hne : ∃ e es', es = e :: es' ∧ starEach (e :: es') X.env = (false, PySem.eval e X.env) :: starEach es' X.env ∧ (backTo pos (starEach es' X.env)).any (·.1) = false)
    (ha : SA g xo F0 H0 W X es fs) : SE g xo F0 H0 W X (.Call (.Name (biName bi) p) es [] pos) (fun env => (fs env).bind fun vs => biOp bi (vs.map Prod.snd)) := by
  cases bi with
  | len =>
    refine se_bf (id := "len") (x := "len") (k := biLen) (CallR.or call_len_seq (call_dlen hw)) hg hm boot_len (by decide) (by decide) (fun σ Q F H ds vs s r p => ?_) hne ha
    unfold biLen at p
    split at p
    · obtain ⟨v, rfl, r1⟩ := r.one
      obtain ⟨q, ws, rfl, hq, rl⟩ := r1.lst s
      split at p
      · exact .inl ⟨q, ws, rfl, .inl (SqL.of hq), PostE.frz p s (by rw [rl.length]; exact Rep.mkI _)⟩
      · exact p.elim
    · obtain ⟨v, rfl, r1⟩ := r.one
      obtain ⟨q, ws, rfl, hq, rl, _⟩ := r1.tup s
      split at p
      · exact .inl ⟨q, ws, rfl, .inr hq, PostE.frz p s (by rw [rl.length]; exact Rep.mkI _)⟩
      · exact p.elim
    · obtain ⟨v, rfl, r1⟩ := r.one
      obtain ⟨q, rfl, hq⟩ := r1.scr s
      split at p
      · exact .inl ⟨q, _, rfl, .inl hq, PostE.frz p s (by rw [List.length_map]; exact Rep.mkI _)⟩
      · exact p.elim
    · obtain ⟨v, rfl, r1⟩ := r.one
      obtain ⟨a, ep, kvs, vvs, rfl, hh⟩ := r1.has s
      split at p
      · exact .inr ⟨F, a, ep, _, _, kvs, vvs, rfl, s, hh, PostE.frz p s (Rep.mkI _)⟩
      · exact p.elim
    · exact p.elim
  | _ => exact se_bi hw hok (hcl rfl) hg hm hne ha
end
section
variable {g : Tab} {ok : Need → Prop} {k : Nat} {H0 : Hp}
theorem snd_O {xo : XO} {F0 : Hp} {W : WX} {X : Cx} {f : E → Expr → Bool} (hP : ∀ e ex, f e ex = true → GoodE ok e → SB g xo F0 H0 W X ex (eval e)) {lo : List E} {l : Option Expr} (h : chkO f lo l = true) (gd : GoodEs ok lo) :
    ∃ fl, SO g xo F0 H0 W X l fl ∧ fOpt fl = Fx.evalOpt lo := by
  match lo, l, h, gd with
  | [], none, _, _ => exact ⟨none, trivial, by funext env; simp only [Fx.evalOpt, fOpt]⟩
  | [e], some x, h, gd =>
    simp only [GoodEs] at gd
    exact ⟨some (eval e), (hP e x h gd.1).se, by funext env; simp only [Fx.evalOpt, fOpt]⟩
  | [], some _, h, _ => cases h
  | [_], none, h, _ => cases h
  | _ :: _ :: _, none, h, _ => cases h
  | _ :: _ :: _, some _, h, _ => cases h
theorem chkL_len {f : E → Expr → Bool} : ∀ {es : List E} {xs : List Expr}, chkL f es xs = true → es.length = xs.length
  | [], [], _ => rfl
  | [], _ :: _, h => by cases h
  | _ :: _, [], h => by cases h
  | e :: es, x :: xs, h => by
    simp only [chkL, Bool.and_eq_true] at h
    simp [chkL_len h.2]
theorem kwNames_len : ∀ {kws : List Keyword} {kn : List Str}, kwNames kws = some kn → kws.length = kn.length
  | [], kn, h => by cases h; rfl
  | ⟨some x, e, p⟩ :: r, kn, h => by
    simp only [kwNames] at h
    obtain ⟨k, hk, rfl⟩ := Option.map_eq_some_iff.mp h
    simp [kwNames_len hk]
  | ⟨none, e, p⟩ :: r, kn, h => by simp [kwNames] at h
theorem kw_names {env : PySem.Env} {pos : Pos} : ∀ {kws : List Keyword} {kn : List Str}, kwNames kws = some kn →
    (backToKw pos (keywordEach kws env)).all (·.1.isSome) = true ∧ (backToKw pos (keywordEach kws env)).filterMap (·.1) = kn ∧ (backToKw pos (keywordEach kws env)).any (·.1.isNone) = false
  | [], kn, h => by cases h; exact ⟨rfl, rfl, rfl⟩
  | ⟨some x, e, p⟩ :: r, kn, h => by
    simp only [kwNames] at h
    obtain ⟨k, hk, rfl⟩ := Option.map_eq_some_iff.mp h
    obtain ⟨a, b, c⟩ := kw_names (env := env) (pos := pos) hk
    simp only [keywordEach, backToKw, List.map_cons, List.all_cons, List.any_cons, List.filterMap_cons] at a b c ⊢
    exact ⟨by rw [a]; rfl, by rw [b], by rw [c]; rfl⟩
  | ⟨none, e, p⟩ :: r, kn, h => by simp [kwNames] at h
theorem snd_K {xo : XO} {F0 : Hp} {W : WX} {X : Cx} {f : E → Expr → Bool} {pos : Pos} (hP : ∀ e ex, f e ex = true → GoodE ok e → SB g xo F0 H0 W X ex (eval e)) : ∀ {es : List E} {kws : List Keyword}, chkL f es (kws.map (·.value)) = true → GoodEs ok es → PK X kws (TAo X.K g xo F0 H0 W (evals es))
  | [], [], _, _ => by
    have : (fun _ => Fx.R.ok []) = evals [] := by funext env; simp only [evals]
    rw [← this]
    exact sk_nil
  | [], _ :: _, h, _ => by cases h
  | _ :: _, [], h, _ => by cases h
  | e :: es, ⟨nm, x, kp⟩ :: kws, h, gd => by
    simp only [List.map_cons, chkL, Bool.and_eq_true] at h
    simp only [GoodEs] at gd
    have : (fun env => (eval e env).bind fun v => (evals es env).bind fun vs => Fx.R.ok (pas v :: vs)) = evals (e :: es) := by funext env; simp only [evals]
    rw [← this]
    exact sk_cons (hP e x h.1 gd.1).se (snd_K hP (pos := pos) h.2 gd.2)
theorem snd_stl {xo : XO} {F0 : Hp} {W : WX} {X : Cx} {f : E → Expr → Bool} (hP : ∀ e ex, f e ex = true → GoodE ok e → SB g xo F0 H0 W X ex (eval e)) : ∀ {bs : List Bool} {es : List E} {xs : List Expr}, chkStl f bs es xs = true → GoodEs ok es → PA X xs (TDo X.K g xo F0 H0 W (evalStl bs es))
  | [], [], [], _, _ => by
    have : (fun _ => Fx.R.ok []) = evalStl [] [] := by funext env; simp only [evalStl]
    rw [← this]
    exact sd_nil
  | true :: bs, e :: es, x :: xs, h, gd => by
    unfold chkStl at h
    split at h <;> first | (cases h; done) | skip
    · rename_i e1 e2 e3; cases e1
    · rename_i bs' e' es' x' p xs' e1 e2 e3
      cases e1; cases e2; cases e3
      simp only [Bool.and_eq_true] at h
      simp only [GoodEs] at gd
      have q := sd_star (sp := p) (hP _ _ h.1 gd.1).se (snd_stl hP h.2 gd.2)
      have e4 : evalStl (true :: bs) (e :: es) = fun env => (eval e env).bind fun v => (seqItems v.2).bind fun xs => (evalStl bs es env).bind fun ys => Fx.R.ok (xs ++ ys) := by funext env; simp only [evalStl]
      rw [e4]
      exact q
    · rename_i e1 e2 e3; cases e1
  | false :: bs, e :: es, x :: xs, h, gd => by
    have h : (nStar x && f e x && chkStl f bs es xs) = true := by simpa only [chkStl] using h
    simp only [Bool.and_eq_true] at h
    simp only [GoodEs] at gd
    have q := sd_cons (hP _ _ h.1.2 gd.1).se (snd_stl hP h.2 gd.2) (star_cons h.1.1)
    have e4 : evalStl (false :: bs) (e :: es) = fun env => (eval e env).bind fun v => (esc (pas v)).bind fun x => (evalStl bs es env).bind fun ys => Fx.R.ok (x :: ys) := by funext env; simp only [evalStl]
    rw [e4]
    exact q
  | [], [], _ :: _, h, _ => by simp [chkStl] at h
  | [], _ :: _, _, h, _ => by simp [chkStl] at h
  | b :: _, [], _, h, _ => by cases b <;> simp [chkStl] at h
  | b :: _, _ :: _, [], h, _ => by cases b <;> simp [chkStl] at h
theorem dcF_eq {t : T} {sk : SK} {src : List E} {k v : E} {own : List Nat} : dcF (srcF true sk src) t own (eval k) (eval v) = eval (.dc k v t sk src own) := by
  funext env
  simp only [eval, dcF, srcF, selV, if_true, Fx.R.bind_assoc, Fx.R.bind_ok]
theorem snd : ∀ (n : Nat) {xo : XO} {F0 : Hp} {W : WX} {X : Cx} {N : List Str} {sc : Scope} {calm : Bool}, Cok g ok k xo W X N sc calm → ∀ (e : E) (ex : Expr), chkE n N sc calm e ex = true → GoodE ok e → SB g xo F0 H0 W X ex (eval e) := by
  intro n
  induction n with
  | zero => intro xo F0 W X N sc calm c e ex h; simp [chkE] at h
  | succ n ih =>
    intro xo F0 W X N sc calm c e ex h gd
    have hP : ∀ e ex, chkE n N sc calm e ex = true → GoodE ok e → SB g xo F0 H0 W X ex (eval e) := fun e ex h gd => ih c e ex h gd
    cases e with
    | var i =>
      simp only [chkE] at h
      split at h <;> first | (cases h; done) | skip
      obtain ⟨h1, h2, h3, h4⟩ := slot_of c h
      exact (SB.plain (se_var h1 h2 h3 h4) rfl).cast fun env => by simp only [eval]
    | cint i =>
      simp only [chkE] at h
      split at h <;> first | (cases h; done) | skip
      cases of_decide_eq_true h
      exact (SB.plain (se_const pe_int fun F => Rep.mkI _) rfl).cast fun env => by simp only [eval]
    | cbl b =>
      simp only [chkE] at h
      split at h <;> first | (cases h; done) | skip
      cases of_decide_eq_true h
      exact (SB.plain (se_const pe_bl fun F => Rep.mkB _) rfl).cast fun env => by simp only [eval]
    | cnon =>
      simp only [chkE] at h
      split at h <;> first | (cases h; done) | skip
      exact (SB.plain (se_const (d := .non) pe_non fun F => (by simp only [Rep])) rfl).cast fun env => by simp only [eval]
    | cstr s =>
      simp only [chkE] at h
      split at h <;> first | (cases h; done) | skip
      cases of_decide_eq_true h
      exact (SB.plain (se_const (d := .str s) pe_str fun F => (by simp only [Rep])) rfl).cast fun env => by simp only [eval]
    | gcon x d =>
      simp only [chkE] at h
      split at h <;> first | (cases h; done) | skip
      simp only [Bool.and_eq_true, decide_eq_true_eq] at h
      obtain ⟨rfl, h2⟩ := h
      obtain ⟨h3, h4, _⟩ := gl_of c h2
      have nd := c.need _ (by simpa only [GoodE] using gd)
      exact (SB.plain (se_gcon nd h3 h4) rfl).cast fun env => by simp only [eval]
    | ccon x C m d =>
      simp only [chkE] at h
      split at h <;> first | (cases h; done) | skip
      simp only [Bool.and_eq_true, decide_eq_true_eq] at h
      obtain ⟨⟨rfl, h2⟩, rfl⟩ := h
      obtain ⟨h3, h4, _⟩ := gl_of c h2
      have nd := c.need _ (by simpa only [GoodE] using gd)
      exact (SB.plain (se_ccon nd h3 h4 (base_of rfl)) rfl).cast fun env => by simp only [eval]
    | bin op a b =>
      simp only [chkE] at h
      split at h <;> first | (cases h; done) | skip
      simp only [Bool.and_eq_true, decide_eq_true_eq] at h
      simp only [GoodE] at gd
      obtain ⟨⟨rfl, h2⟩, h3⟩ := h
      exact (SB.plain (se_bin (hP _ _ h2 gd.1).se (hP _ _ h3 gd.2).se) rfl).cast fun env => by simp only [eval]
    | neg a =>
      simp only [chkE] at h
      split at h <;> first | (cases h; done) | skip
      simp only [Bool.and_eq_true, decide_eq_true_eq] at h
      simp only [GoodE] at gd
      obtain ⟨rfl, h2⟩ := h
      exact (SB.plain (se_neg (hP _ _ h2 gd).se) rfl).cast fun env => by simp only [eval]
    | inv a =>
      simp only [chkE] at h
      split at h <;> first | (cases h; done) | skip
      simp only [Bool.and_eq_true, decide_eq_true_eq] at h
      simp only [GoodE] at gd
      obtain ⟨rfl, h2⟩ := h
      exact (SB.plain (se_inv (hP _ _ h2 gd).se) rfl).cast fun env => by simp only [eval]
    | not a =>
      simp only [chkE] at h
      split at h <;> first | (cases h; done) | skip
      simp only [Bool.and_eq_true, decide_eq_true_eq] at h
      simp only [GoodE] at gd
      obtain ⟨rfl, h2⟩ := h
      have q := hP _ _ h2 gd
      exact SB.cast ⟨se_not q.se, st_not q.st⟩ fun env => by simp only [eval]
    | cmp op a b =>
      simp only [chkE] at h
      split at h <;> first | (cases h; done) | skip
      simp only [Bool.and_eq_true, decide_eq_true_eq] at h
      simp only [GoodE] at gd
      obtain ⟨⟨⟨rfl, h2⟩, h3⟩, h4⟩ := h
      have q := se_cop (op := op) (pos := ‹_›) c.wd c.units (marks_of h2) (hP _ _ h3 gd.1).se (hP _ _ h4 gd.2).se
      exact SB.cast ⟨q.1, q.2⟩ fun env => by simp only [eval]
    | chain o1 o2 a b d =>
      simp only [chkE] at h
      split at h <;> first | (cases h; done) | skip
      simp only [Bool.and_eq_true, decide_eq_true_eq] at h
      simp only [GoodE] at gd
      obtain ⟨⟨⟨⟨⟨rfl, rfl⟩, h2⟩, h3⟩, h4⟩, h5⟩ := h
      have q := se_chain (o1 := o1) (o2 := o2) (pos := ‹_›) c.wd c.units (lastm_of h2) (hP _ _ h3 gd.1).se (hP _ _ h4 gd.2.1).se (hP _ _ h5 gd.2.2).se
      exact SB.cast ⟨q.1, q.2⟩ fun env => by simp only [eval]
    | isn a =>
      simp only [chkE] at h
      split at h <;> first | (cases h; done) | skip
      simp only [Bool.and_eq_true, decide_eq_true_eq] at h
      simp only [GoodE] at gd
      obtain ⟨rfl, h2⟩ := h
      exact SB.cast ⟨(se_isn (hP _ _ h2 gd).se).1, (se_isn (hP _ _ h2 gd).se).2⟩ fun env => by simp only [eval]
    | isnn a =>
      simp only [chkE] at h
      split at h <;> first | (cases h; done) | skip
      simp only [Bool.and_eq_true, decide_eq_true_eq] at h
      simp only [GoodE] at gd
      obtain ⟨rfl, h2⟩ := h
      exact SB.cast ⟨(se_isnn (hP _ _ h2 gd).se).1, (se_isnn (hP _ _ h2 gd).se).2⟩ fun env => by simp only [eval]
    | ands es =>
      simp only [chkE] at h
      split at h <;> first | (cases h; done) | skip
      simp only [Bool.and_eq_true, decide_eq_true_eq] at h
      simp only [GoodE] at gd
      obtain ⟨⟨rfl, h2⟩, h3⟩ := h
      match es, h2, h3, gd with
      | e :: es, _, h3, gd =>
        have q := snd_ands (pos := ‹_›) hP h3 gd
        exact SB.cast ⟨q.1, q.2.pt⟩ fun env => by simp only [eval]
      | [], h2, _, _ => simp at h2
    | ors es =>
      simp only [chkE] at h
      split at h <;> first | (cases h; done) | skip
      simp only [Bool.and_eq_true, decide_eq_true_eq] at h
      simp only [GoodE] at gd
      obtain ⟨⟨rfl, h2⟩, h3⟩ := h
      match es, h2, h3, gd with
      | e :: es, _, h3, gd =>
        have q := snd_ors (pos := ‹_›) hP h3 gd
        exact SB.cast ⟨q.1, q.2.pt⟩ fun env => by simp only [eval]
      | [], h2, _, _ => simp at h2
    | ife d a b =>
      simp only [chkE] at h
      split at h <;> first | (cases h; done) | skip
      simp only [Bool.and_eq_true] at h
      simp only [GoodE] at gd
      obtain ⟨⟨h1, h2⟩, h3⟩ := h
      have q1 := hP _ _ h1 gd.1
      have q2 := hP _ _ h2 gd.2.1
      have q3 := hP _ _ h3 gd.2.2
      exact SB.cast ⟨se_ife q1.st q2.se q3.se, st_ife q1.st q2.st q3.st⟩ fun env => by simp only [eval]
    | tup es =>
      simp only [chkE] at h
      split at h <;> first | (cases h; done) | skip
      simp only [Bool.and_eq_true] at h
      simp only [GoodE] at gd
      exact (SB.plain (se_tup (snd_L hP h.2 h.1 gd)) rfl).cast fun env => by simp only [eval]
    | lst es =>
      simp only [chkE] at h
      split at h <;> first | (cases h; done) | skip
      simp only [Bool.and_eq_true] at h
      simp only [GoodE] at gd
      exact (SB.plain (se_lst (snd_L hP h.2 h.1 gd)) rfl).cast fun env => by simp only [eval]
    | call x φ es =>
      simp only [chkE] at h
      split at h <;> first | (cases h; done) | skip
      rename_i y py xs pp
      simp only [Bool.and_eq_true, decide_eq_true_eq] at h
      simp only [GoodE] at gd
      obtain ⟨⟨⟨⟨h0, rfl⟩, h2⟩, h3⟩, h4⟩ := h
      obtain ⟨g1, g2, _⟩ := gl_of c h2
      obtain ⟨_, hr, tk, _⟩ := c.calm h0
      have nd := c.need _ gd.1
      rcases nd with nd | nd
      · exact (SB.plain (se_call nd hr tk g1 g2 (snd_L hP h4 h3 gd.2) (he_of h3) (fun e env => by
          subst e
          cases es with
          | nil => simp only [evals]
          | cons _ _ => cases h4)) rfl).cast fun env => by simp only [eval]
      · match xs, h3, h4 with
        | y :: ys, h3, h4 => exact (SB.plain (nd.ex X rfl rfl rfl rfl rfl hr (c.calm h0).1 c.units g1 xo F0 H0 W _ _ _ _ tk h3 (by simp) (snd_L hP h4 h3 gd.2)) rfl).cast fun env => by simp only [eval]
        | [], h3, h4 =>
          match es, h4 with
          | [], _ =>
            have e0 : ∀ env, eval (.call x φ []) env = .no := fun env => by
              simp only [eval, evals, Fx.R.bind_ok, List.map_nil]
              exact nd.no
            exact SB.plain (se_void fun F H σ env _ => (by rw [e0]; exact ⟨fun _ z => (by cases z), fun _ _ z => (by cases z)⟩)) rfl
    | new x C φ es =>
      simp only [chkE] at h
      split at h <;> first | (cases h; done) | skip
      simp only [Bool.and_eq_true, decide_eq_true_eq] at h
      simp only [GoodE] at gd
      obtain ⟨⟨⟨⟨h0, rfl⟩, h2⟩, h3⟩, h4⟩ := h
      obtain ⟨g1, g2, _⟩ := gl_of c h2
      obtain ⟨_, hr, tk, _⟩ := c.calm h0
      have nd := c.need _ gd.1
      exact (SB.plain (se_new nd hr tk g1 g2 (snd_L hP h4 h3 gd.2) (he_of h3) (fun e env => by
        subst e
        cases es with
        | nil => simp only [evals]
        | cons _ _ => cases h4)) rfl).cast fun env => by simp only [eval]
    | meth C m φ o es =>
      simp only [chkE] at h
      split at h <;> first | (cases h; done) | skip
      simp only [Bool.and_eq_true, decide_eq_true_eq] at h
      simp only [GoodE] at gd
      obtain ⟨⟨⟨⟨⟨⟨⟨h0, rfl⟩, h2⟩, h3⟩, h4⟩, h5⟩, h6⟩, h7⟩ := h
      obtain ⟨_, hr, tk, _⟩ := c.calm h0
      have nd := c.need _ gd.1
      exact (SB.plain (se_meth nd hr tk (hP _ _ h6 gd.2.1).se (snd_L hP h7 h5 gd.2.2) (he_of h5) (fun e env => by
        subst e
        cases es with
        | nil => simp only [evals]
        | cons _ _ => cases h7) (meth_of h2 h5 h3 h4)) rfl).cast fun env => by simp only [eval]
    | prop C m φ o =>
      simp only [chkE] at h
      split at h <;> first | (cases h; done) | skip
      simp only [Bool.and_eq_true, decide_eq_true_eq] at h
      simp only [GoodE] at gd
      obtain ⟨⟨⟨h0, rfl⟩, h2⟩, h3⟩ := h
      obtain ⟨_, hr, tk, _⟩ := c.calm h0
      have nd := c.need _ gd.1
      exact (SB.plain (se_prop nd hr (hP _ _ h3 gd.2).se (base_of h2)) rfl).cast fun env => by simp only [eval]
    | fld C j m o =>
      simp only [chkE] at h
      split at h <;> first | (cases h; done) | skip
      simp only [Bool.and_eq_true, decide_eq_true_eq] at h
      simp only [GoodE] at gd
      obtain ⟨⟨rfl, h2⟩, h3⟩ := h
      have nd := c.need _ gd.1
      exact (SB.plain (se_fld nd (hP _ _ h3 gd.2).se (base_of h2)) rfl).cast fun env => by simp only [eval]
    | bi b es =>
      simp only [chkE] at h
      split at h <;> first | (cases h; done) | skip
      rename_i yy pp xs pos
      simp only [Bool.and_eq_true, decide_eq_true_eq] at h
      simp only [GoodE] at gd
      obtain ⟨⟨⟨⟨⟨⟨h0, rfl⟩, h2⟩, h3⟩, h4⟩, h5⟩, h6⟩ := h
      obtain ⟨g1, g2, _⟩ := gl_of c h3
      cases xs with
      | nil =>
        cases es with
        | nil => simp at h4
        | cons _ _ => cases h6
      | cons x xs =>
        exact (SB.plain (se_bi' c.wd h2 (fun hb => (c.calm (by simpa [hb] using h0)).1) g1 (c.bi _ (by cases b <;> decide)) (hne_of h5) (snd_L hP h6 h5 gd)) rfl).cast fun env => by simp only [eval]
    | isi o t =>
      simp only [chkE] at h
      split at h <;> first | (cases h; done) | skip
      simp only [Bool.and_eq_true, decide_eq_true_eq] at h
      simp only [GoodE] at gd
      obtain ⟨⟨⟨⟨⟨rfl, rfl⟩, h2⟩, h3⟩, h4⟩, h5⟩ := h
      obtain ⟨g1, _⟩ := gl_of c h2
      obtain ⟨g2, g3, g4⟩ := gl_of c h3
      have nd := c.need _ gd.1
      exact (SB.plain (se_isi nd g1 g2 g3 g4 (star_cons h4) (hP _ _ h5 gd.2).se) rfl).cast fun env => by simp only [eval]
    | xfld i m tab =>
      simp only [chkE] at h
      split at h <;> first | (cases h; done) | skip
      simp only [Bool.and_eq_true, decide_eq_true_eq] at h
      simp only [GoodE] at gd
      obtain ⟨rfl, h2⟩ := h
      obtain ⟨h3, h4, h5, h6⟩ := slot_of c h2
      exact (SB.plain (se_xfld c.xcx (fun C j e => c.need _ (gd C j e)) h3 h4 h5 h6 (base_of rfl)) rfl).cast fun env => by simp only [eval]
    | xis i u C tab =>
      simp only [chkE] at h
      split at h <;> first | (cases h; done) | skip
      simp only [Bool.and_eq_true, decide_eq_true_eq] at h
      simp only [GoodE] at gd
      obtain ⟨⟨⟨⟨rfl, rfl⟩, h2⟩, h3⟩, h7⟩ := h
      obtain ⟨h3', h4, h5, h6⟩ := slot_of c h7
      obtain ⟨g1, _⟩ := gl_of c h2
      obtain ⟨g2, g3, g4⟩ := gl_of c h3
      have nd : XisOk g X u C tab := c.need _ gd
      exact (SB.plain (se_xis c.xcx nd.tab nd.mg (c.bi _ (by decide)) g1 g2 g3 h3' h4 h5 h6) rfl).cast fun env => by simp only [eval]
    | ix o i =>
      simp only [chkE] at h
      split at h <;> first | (cases h; done) | skip
      simp only [Bool.and_eq_true] at h
      simp only [GoodE] at gd
      obtain ⟨⟨h1, h2⟩, h3⟩ := h
      exact (SB.plain (se_ix c.wd c.units (ix_of h1) (hP _ _ h2 gd.1).se (hP _ _ h3 gd.2).se) rfl).cast fun env => by simp only [eval]
    | slc o lo hi =>
      simp only [chkE] at h
      split at h <;> first | (cases h; done) | skip
      simp only [Bool.and_eq_true] at h
      simp only [GoodE] at gd
      obtain ⟨⟨h1, h2⟩, h3⟩ := h
      obtain ⟨fl, sl, el⟩ := snd_O hP h2 gd.2.1
      obtain ⟨fh, sh, eh⟩ := snd_O hP h3 gd.2.2
      exact (SB.plain (se_slc (hP _ _ h1 gd.1).se sl sh) rfl).cast fun env => by simp only [eval]; rw [← el, ← eh]
    | lc elt t sk src ifs own =>
      simp only [chkE] at h
      split at h <;> first | (cases h; done) | skip
      simp only [Bool.and_eq_true, decide_eq_true_eq] at h
      simp only [GoodE] at gd
      obtain ⟨⟨⟨⟨⟨⟨⟨⟨⟨h0, rfl⟩, h1⟩, h2⟩, h3⟩, h4⟩, h5⟩, h6⟩, h7⟩, h8⟩ := h
      obtain ⟨ownN, e1, hb, hxo, q1, q2, q3, q4, q5, q6⟩ := snd_lc (F0 := F0) (H0 := H0) c h0 hP (fun X' F0 c' e ex h g => ih c' e ex h g) h1 h2 h3 h4 h5 h6 h7 h8 gd.1 gd.2.1 gd.2.2
      obtain ⟨x0, pin⟩ := xo
      obtain rfl : x0 = none := hxo
      have q := se_lc (pos := ‹_›) (c.calm h0).1 (by rw [c.N_eq]; exact c.nd) hb q1 q2 q3 q4 q5 q6
      rw [e1, lcF_eq] at q
      exact SB.plain q rfl
    | newK x C φ es kn ks =>
      simp only [chkE] at h
      split at h <;> first | (cases h; done) | skip
      rename_i y py xs kw kws pp
      simp only [Bool.and_eq_true, decide_eq_true_eq, Bool.not_eq_true'] at h
      simp only [GoodE] at gd
      obtain ⟨⟨⟨⟨⟨⟨⟨h0, rfl⟩, h2⟩, h3⟩, h4⟩, h5⟩, h6⟩, h7⟩ := h
      obtain ⟨g1, g2, _⟩ := gl_of c h2
      obtain ⟨_, hr, tk, _⟩ := c.calm h0
      have nd := c.need _ gd.1
      have sk := snd_K hP (pos := pp) h7 gd.2.2
      obtain ⟨k1, k2, k3⟩ := kw_names (env := X.env) (pos := pp) h6
      match xs, es, h3, h4, h5, gd with
      | z :: zs, e :: es, h3, h4, h5, gd =>
        have h3' : nStar z = true ∧ nStars zs = true := by simpa [nStars] using h3
        have hl : ks.length = kn.length := by rw [chkL_len h7, List.length_map, kwNames_len h6]
        exact (SB.plain (se_newK nd hr tk g1 g2 (snd_L hP h5 h3 gd.2.1) sk k1 k2 (star_cons h3'.1) (by rw [k3, back_any h3]; rfl) (fun env vs q => evals_len q) (fun env vs q => by rw [evals_len q, hl])) rfl).cast fun env => by simp only [eval]
      | [], _ :: _, _, _, h5, _ => cases h5
      | _, [], _, h4, _, _ => simp at h4
    | dnew =>
      simp only [chkE] at h
      split at h <;> first | (cases h; done) | skip
      exact (SB.plain se_dnew rfl).cast fun env => by simp only [eval]
    | disp k v =>
      simp only [chkE] at h
      split at h <;> first | (cases h; done) | skip
      simp only [Bool.and_eq_true] at h
      simp only [GoodE] at gd
      exact (SB.plain (se_disp c.wd c.units (hP _ _ h.1 gd.1).se (hP _ _ h.2 gd.2).se) rfl).cast fun env => by simp only [eval]
    | mrg a b => simp [chkE] at h
    | dc k v t sk src own =>
      simp only [chkE] at h
      split at h <;> first | (cases h; done) | skip
      simp only [Bool.and_eq_true, decide_eq_true_eq] at h
      simp only [GoodE] at gd
      obtain ⟨⟨⟨⟨⟨⟨⟨⟨h0, rfl⟩, h1⟩, h2⟩, h3⟩, h4⟩, h7⟩, h7'⟩, h8⟩ := h
      have hb := blkOk_by h1
      rw [← c.N_eq, ← c.sc_eq] at hb
      obtain ⟨_, _, _, hxo, q1, q2, _, q4, q5, _⟩ := snd_lc (F0 := F0) (H0 := H0) (ifs := []) (fs := []) c h0 hP (fun X' F0 c' e ex h g => ih c' e ex h g) h1 h2 h3 h4 (by simp) rfl h7 h8 gd.1 gd.2.2 (by simp only [GoodEs])
      obtain ⟨_, _, _, _, _, _, _, q4', _, _⟩ := snd_lc (F0 := F0) (H0 := H0) (ifs := []) (fs := []) c h0 hP (fun X' F0 c' e ex h g => ih c' e ex h g) h1 h2 h3 h4 (by simp) rfl h7' h8 gd.2.1 gd.2.2 (by simp only [GoodEs])
      obtain ⟨x0, pin⟩ := xo
      obtain rfl : x0 = none := hxo
      have q := se_dc (pos := ‹_›) (own := natsB N own) c.wd c.units (c.calm h0).1 (by rw [c.N_eq]; exact c.nd) (by rw [c.N_eq] at hb ⊢; exact hb) q1 q2 q4 q4' q5 (by rw [natsB_snd]; intro i hi; exact of_decide_eq_true (List.all_eq_true.mp h8 i hi))
      rw [natsB_snd, dcF_eq] at q
      exact SB.plain q rfl
    | sset e t sk src own => simp [chkE] at h
    | stl tp bs es =>
      simp only [chkE] at h
      simp only [GoodE] at gd
      split at h <;> first | (cases h; done) | skip
      · simp only [Bool.and_eq_true, Bool.not_eq_true'] at h
        obtain ⟨rfl, h⟩ := h
        exact (SB.plain (se_stlL (snd_stl hP h gd)) rfl).cast fun env => by simp only [eval]; rfl
      · simp only [Bool.and_eq_true] at h
        obtain ⟨rfl, h⟩ := h
        exact (SB.plain (se_stlT (snd_stl hP h gd)) rfl).cast fun env => by simp only [eval]; rfl
    | srev o =>
      simp only [chkE] at h
      split at h <;> first | (cases h; done) | skip
      simp only [Bool.and_eq_true, decide_eq_true_eq] at h
      simp only [GoodE] at gd
      obtain ⟨⟨rfl, rfl⟩, h⟩ := h
      exact (SB.plain (se_srev (hP _ _ h gd).se) rfl).cast fun env => by simp only [eval]
end
end Fx

/-! The check and the walk of statements. -/
namespace Fx
open PySem PySem.Spec PyProof.Rows L2
mutual
def GoodS (ok : Need → Prop) : S → Prop
  | .set _ _ e => GoodE ok e
  | .setT _ e => GoodE ok e
  | .setI _ k e => GoodE ok k ∧ GoodE ok e
  | .setF _ C j m e => ok (.fldS C j m) ∧ GoodE ok e
  | .app _ e => GoodE ok e
  | .ext _ e => GoodE ok e
  | .ex e => GoodE ok e
  | .iff c a b => GoodE ok c ∧ GoodSs ok a ∧ GoodSs ok b
  | .for_ _ _ src body _ => GoodEs ok src ∧ GoodSs ok body
  | .whl c body _ => GoodE ok c ∧ GoodSs ok body
  | .ret e => GoodE ok e
  | .retV _ => True
  | .retN => True
  | .rse x C es => ok (.rse x C es.length) ∧ GoodEs ok es
  | .rsT x C _ => ok (.rsT x C)
  | .brk => True
  | .cnt => True
  | .pass => True
  | .mov _ _ => True
  | .tryA body x C tab _ suite => ok (.catch_ x C tab) ∧ GoodSs ok body ∧ GoodSs ok suite
  | .tryO body x C tab suite => ok (.catch_ x C tab) ∧ GoodSs ok body ∧ GoodSs ok suite
  | .fz _ => True
  | .fg _ => True
def GoodSs (ok : Need → Prop) : List S → Prop
  | [] => True
  | s :: ss => GoodS ok s ∧ GoodSs ok ss
end
def isGhost : S → Bool
  | .fz _ => true
  | .fg _ => true
  | _ => false
def chkSs (f : S → Stmt → Bool) : List S → List Stmt → Bool
  | [], [] => true
  | [], _ :: _ => false
  | s :: ss, sts => match isGhost s with
    | true => chkSs f ss sts
    | false => match sts with
      | st :: sts => f s st && chkSs f ss sts
      | [] => false
/-- a name gets a comprehension's list: the special step -/
def swLc (sc : Scope) (y : Str) (py pos : Pos) (scope : Scope) : Bool := sc.names.lookup y == some .local && py.line == pos.line && !(scope.names.any fun (n, k) => n == y && (k == .local || k == .cell))
theorem swLc_of {elt : Expr} {gs : List Comprehension} {scope sc : Scope} {pos py : Pos} {y : Str} {l : Nat} {env : PySem.Env} (hk : sc.kind = .function) (hs : env.scope = sc) : swapsWith (.ListComp elt gs scope pos) (some (.Name y py)) l env = pure (swLc sc y py pos scope) := by
  have hb : env.blockKind = .function := by unfold PySem.Env.blockKind; rw [hs, hk]; rfl
  unfold swapsWith swLc
  simp only [hb, PySem.Env.kindOf, hs, Expr.pos]
  rfl
theorem swDc_of {kx vx : Expr} {gs : List Comprehension} {scope sc : Scope} {pos py : Pos} {y : Str} {l : Nat} {env : PySem.Env} (hk : sc.kind = .function) (hs : env.scope = sc) : swapsWith (.DictComp kx vx gs scope pos) (some (.Name y py)) l env = pure (swLc sc y py pos scope) := by
  have hb : env.blockKind = .function := by unfold PySem.Env.blockKind; rw [hs, hk]; rfl
  unfold swapsWith swLc
  simp only [hb, PySem.Env.kindOf, hs, Expr.pos]
  rfl
theorem swaps_tgt {e t : Expr} {l : Nat} {env : PySem.Env} (h : isNameT t = false) : swapsWith e (some t) l env = pure false := by
  cases t <;> first | (cases h; done) | skip
  all_goals (cases e <;> rfl)
def chkS : Nat → List Str → Scope → Bool → S → Stmt → Bool
  | 0, _, _, _, _, _ => false
  | n + 1, N, sc, calm, s, st => match s with
    | .set i fz e => match st with
      | .Assign [.Name x px] y _ => (fz || decide (i ≠ 0)) && decide (N[i]? = some x) && locB sc x && (match y with
        | .ListComp z [⟨tg, iter, fs, a⟩] scope p => if swLc sc x px p scope then (match e with
            | .lc elt t k src ifs own => calm && decide (a = 0) && blkC N sc scope (natsB N own) && nSet iter && chkI (chkE n N sc calm) sc tg k src iter && chkT N scope t tg && decide (ifs.length ≤ 1) && chkL (chkE n N (relS scope sc) calm) ifs fs && chkE n N (relS scope sc) calm elt z && t.slots.all (fun i => decide (i ∈ own))
            | _ => false) else chkE n N sc calm e y
        | .DictComp x1 y1 [⟨tg, iter, [], a⟩] scope p => if swLc sc x px p scope then (match e with
            | .dc k v t sk src own => calm && decide (a = 0) && blkC N sc scope (natsB N own) && nSet iter && chkI (chkE n N sc calm) sc tg sk src iter && chkT N scope t tg && chkE n N (relS scope sc) calm k x1 && chkE n N (relS scope sc) calm v y1 && t.slots.all (fun i => decide (i ∈ own))
            | _ => false) else chkE n N sc calm e y
        | y => nComp y && chkE n N sc calm e y)
      | _ => false
    | .setT t e => match st with
      | .Assign [tg] y _ => calm && isTup tg && nTup y && nComp y && chkT N sc t tg && chkE n N sc calm e y
      | _ => false
    | .setI i k e => match st with
      | .Assign [.Subscript (.Name x _) z _] y _ => slotB N sc x i && nSlice z && chkE n N sc calm k z && chkE n N sc calm e y
      | _ => false
    | .setF i _ _ m e => match st with
      | .Assign [.Attribute (.Name x _) m' _] y _ => decide (m = m') && slotB N sc x i && chkE n N sc calm e y
      | _ => false
    | .app i e => match st with
      | .Expr (.Call (.Attribute (.Name x _) m ap) [y] [] p) _ => decide (m = "append") && slotB N sc x i && (ap.endLine == p.line) && nStar y && chkE n N sc calm e y
      | _ => false
    | .ext i e => match st with
      | .Expr (.Call (.Attribute (.Name x _) m ap) [y] [] p) _ => decide (m = "extend") && slotB N sc x i && (ap.endLine == p.line) && nStar y && chkE n N sc calm e y
      | _ => false
    | .ex e => match st with
      | .Expr y _ => nComp y && chkE n N sc calm e y
      | _ => false
    | .iff c a b => match st with
      | .If z x y _ => chkE n N sc calm c z && chkSs (chkS n N sc calm) a x && chkSs (chkS n N sc calm) b y
      | _ => false
    | .for_ t k src body _ => match st with
      | .For tg iter b [] _ => calm && nSet iter && chkI (chkE n N sc calm) sc tg k src iter && chkT N sc t tg && chkSs (chkS n N sc calm) body b
      | _ => false
    | .whl c body _ => match st with
      | .While z b [] _ => calm && chkE n N sc calm c z && chkSs (chkS n N sc calm) body b
      | _ => false
    | .ret e => match st with
      | .Return (some y) _ => chkE n N sc calm e y
      | _ => false
    | .retV i => match st with
      | .Return (some (.Name x _)) _ => slotB N sc x i
      | _ => false
    | .retN => match st with
      | .Return none _ => true
      | _ => false
    | .rse x _ es => match st with
      | .Raise (some (.Call (.Name y _) xs [] _)) none _ => calm && decide (x = y) && glB sc x && !es.isEmpty && nStars xs && chkL (chkE n N sc calm) es xs
      | _ => false
    | .rsT x _ t => match st with
      | .Raise (some (.Call (.Name y _) [.Constant (.str u) _ _] [] _)) none _ => calm && decide (x = y) && glB sc x && decide (t = u)
      | _ => false
    | .brk => match st with
      | .Break _ => true
      | _ => false
    | .cnt => match st with
      | .Continue _ => true
      | _ => false
    | .mov i j => match st with
      | .Assign [.Name x _] (.Name y _) _ => decide (i ≠ 0) && decide (i ≠ j) && decide (N[i]? = some x) && locB sc x && slotB N sc y j
      | _ => false
    | .pass => match st with
      | .Pass _ => true
      | _ => false
    | .tryA body y _ _ i suite => match st with
      | .Try b [.ExceptHandler (some (.Name y' _)) (some x) u _] [] [] _ => calm && decide (y = y') && glB sc y && decide (N[i]? = some x) && decide (sc.names.lookup x = some .local) && !u.isEmpty && chkSs (chkS n N sc true) body b && chkSs (chkS n N sc false) suite u
      | _ => false
    | .tryO _ _ _ _ _ => false
    | .fz _ => false
    | .fg _ => false
/-- a def's frame -/
structure Dok (g : Tab) (ok : Need → Prop) (k : Nat) (xo : XO) (W : WX) (X : Cx) (N : List Str) (sc : Scope) (calm : Bool) : Prop where
  c : Cok g ok k xo W X N sc calm
  fn : ∀ x, X.fn x = true
  dm : calm = true → X.stack = X.env :: X.outer ∧ X.env.frame = some X.env.locals ∧ PassesOwn (model X.prog X.w) X.A X.env X.xe
section
variable {g : Tab} {ok : Need → Prop} {k : Nat} {H0 : Hp} {N : List Str} {sc : Scope}
theorem SS.cast {xo : XO} {F0 : Hp} {W : WX} {X : Cx} {st : Stmt} {f f' : Env → Out} (h : SS g xo F0 H0 W X st f) (e : ∀ env, f env = f' env) : SS g xo F0 H0 W X st f' := by
  have : f = f' := funext e
  rw [← this]; exact h
theorem snd_Ss {xo : XO} {F0 : Hp} {W : WX} {X : Cx} {f : S → Stmt → Bool} (hP : ∀ s st, f s st = true → GoodS ok s → SS g xo F0 H0 W X st (exec s)) : ∀ {ss : List S} {sts : List Stmt}, chkSs f ss sts = true → GoodSs ok ss → SSs g xo F0 H0 W X sts (execs ss)
  | [], [], _, _ => by
    have e : (fun env => Out.nx env) = execs [] := by funext env; simp only [execs]
    rw [← e]; exact ss_nil
  | [], _ :: _, h, _ => by simp [chkSs] at h
  | s :: ss, sts, h, gd => by
    unfold chkSs at h
    simp only [GoodSs] at gd
    have e : (fun env => goOn (exec s env) (execs ss)) = execs (s :: ss) := by funext env; simp only [execs]
    rw [← e]
    split at h
    · rename_i hg
      have r := snd_Ss hP h gd.2
      cases s <;> first | (cases hg; done) | skip
      · have e2 : ∀ is, (fun env => goOn (exec (.fz is) env) (execs ss)) = fun env => goOn (.nx (freeze env is)) (execs ss) := fun is => by funext env; simp only [exec]
        rw [e2]; exact ss_fz r
      · have e2 : ∀ is, (fun env => goOn (exec (.fg is) env) (execs ss)) = fun env => goOn (.nx (wipeE env is)) (execs ss) := fun is => by funext env; simp only [exec]
        rw [e2]; exact ss_fg r
    · split at h
      · simp only [Bool.and_eq_true] at h
        exact ss_cons (hP _ _ h.1 gd.1) (snd_Ss hP h.2 gd.2)
      · cases h
theorem srcF_for {sk : SK} {src : List E} {env : Env} : ((evals src env).bind fun vs => (mapR noLnt vs).bind fun ds => srcItems sk ds) = srcF false sk src env := by
  simp only [srcF, selV, Bool.false_eq_true, if_false]
theorem sndS : ∀ (n : Nat) {xo : XO} {F0 : Hp} {W : WX} {X : Cx} {calm : Bool}, Dok g ok k xo W X N sc calm → ∀ (s : S) (st : Stmt), chkS n N sc calm s st = true → GoodS ok s → SS g xo F0 H0 W X st (exec s) := by
  intro n
  induction n with
  | zero => intro xo F0 W X calm d s st h; simp [chkS] at h
  | succ n ih =>
    intro xo F0 W X calm d s st h gd
    have c := d.c
    have hE : ∀ F0 e ex, chkE n N sc calm e ex = true → GoodE ok e → SB g xo F0 H0 W X ex (eval e) := fun F0 e ex h gd => snd n c e ex h gd
    have hS : ∀ F0 s st, chkS n N sc calm s st = true → GoodS ok s → SS g xo F0 H0 W X st (exec s) := fun F0 s st h gd => ih d s st h gd
    have hNd : X.N.Nodup := by rw [c.N_eq]; exact c.nd
    cases s with
    | set i fz e =>
      simp only [chkS] at h
      split at h <;> first | (cases h; done) | skip
      rename_i x px y pos
      simp only [Bool.and_eq_true, decide_eq_true_eq] at h
      obtain ⟨⟨⟨h0i, h1⟩, h2⟩, h3⟩ := h
      have hn0 : fz = true ∨ i ≠ 0 := by simpa using h0i
      have l := locB_loc h2
      have hi : X.N[i]? = some x := by rw [c.N_eq]; exact h1
      have hl : Loc X.env.scope x := by rw [c.sc_eq]; exact l
      split at h3
      · rename_i z tg iter fs a scope p
        split at h3
        · rename_i hsw
          split at h3 <;> first | (cases h3; done) | skip
          rename_i elt t sk src ifs own
          simp only [Bool.and_eq_true, decide_eq_true_eq] at h3
          simp only [GoodS, GoodE] at gd
          obtain ⟨⟨⟨⟨⟨⟨⟨⟨⟨h0, rfl⟩, k1⟩, k2⟩, k3⟩, k4⟩, k5⟩, k6⟩, k7⟩, k8⟩ := h3
          obtain ⟨ownN, e1, hb, hxo, q1, q2, q3, q4, q5, q6⟩ := snd_lc (F0 := F0) (H0 := H0) c h0 (hE F0) (fun X' F0 c' e ex h g => snd n c' e ex h g) k1 k2 k3 k4 k5 k6 k7 k8 gd.1 gd.2.1 gd.2.2
          obtain ⟨x0, pin⟩ := xo
          obtain rfl : x0 = none := hxo
          have hy : X.env.scope.names.lookup x = some .local := by
            rw [c.sc_eq]
            unfold swLc at hsw
            simp only [Bool.and_eq_true, beq_iff_eq] at hsw
            exact hsw.1.1
          have q := ss_setLc (b := fz) (py := px) (spos := pos) (pos := p) hn0 (c.calm h0).1 hNd hi hy (by rw [swLc_of c.kind c.sc_eq, hsw]) hb q1 q2 q3 q4 q5 q6
          rw [e1, lcF_eq] at q
          exact q.cast fun env => by simp only [exec]
        · rename_i hsw
          simp only [Bool.not_eq_true] at hsw
          have q := ss_set (b := fz) (pos' := px) (pos := pos) hn0 hNd hi hl (hE F0 _ _ h3 (by simpa only [GoodS] using gd)).se (by rw [swLc_of c.kind c.sc_eq, hsw]) (.inl (d.fn x))
          exact q.cast fun env => by simp only [exec]
      · rename_i x1 y1 tg iter a scope p
        split at h3
        · rename_i hsw
          split at h3 <;> first | (cases h3; done) | skip
          rename_i k v t sk src own
          simp only [Bool.and_eq_true, decide_eq_true_eq] at h3
          simp only [GoodS, GoodE] at gd
          obtain ⟨⟨⟨⟨⟨⟨⟨⟨h0, rfl⟩, k1⟩, k2⟩, k3⟩, k4⟩, k7⟩, k7'⟩, k8⟩ := h3
          have hb := blkOk_by k1
          rw [← c.N_eq, ← c.sc_eq] at hb
          obtain ⟨_, _, _, hxo, q1, q2, _, q4, q5, _⟩ := snd_lc (F0 := F0) (H0 := H0) (ifs := []) (fs := []) c h0 (hE F0) (fun X' F0 c' e ex h g => snd n c' e ex h g) k1 k2 k3 k4 (by simp) rfl k7 k8 gd.1 gd.2.2 (by simp only [GoodEs])
          obtain ⟨_, _, _, _, _, _, _, q4', _, _⟩ := snd_lc (F0 := F0) (H0 := H0) (ifs := []) (fs := []) c h0 (hE F0) (fun X' F0 c' e ex h g => snd n c' e ex h g) k1 k2 k3 k4 (by simp) rfl k7' k8 gd.2.1 gd.2.2 (by simp only [GoodEs])
          obtain ⟨x0, pin⟩ := xo
          obtain rfl : x0 = none := hxo
          have hy : X.env.scope.names.lookup x = some .local := by
            rw [c.sc_eq]
            unfold swLc at hsw
            simp only [Bool.and_eq_true, beq_iff_eq] at hsw
            exact hsw.1.1
          have q := ss_setDc (b := fz) (py := px) (spos := pos) (pos := p) (own := natsB N own) hn0 c.wd c.units (c.calm h0).1 hNd hi hy (by rw [swDc_of c.kind c.sc_eq, hsw]) (by rw [c.N_eq] at hb ⊢; exact hb) q1 q2 q4 q4' q5 (by rw [natsB_snd]; intro i hi; exact of_decide_eq_true (List.all_eq_true.mp k8 i hi))
          rw [natsB_snd, dcF_eq] at q
          exact q.cast fun env => by simp only [exec]
        · rename_i hsw
          simp only [Bool.not_eq_true] at hsw
          have q := ss_set (b := fz) (pos' := px) (pos := pos) hn0 hNd hi hl (hE F0 _ _ h3 (by simpa only [GoodS] using gd)).se (by rw [swDc_of c.kind c.sc_eq, hsw]) (.inl (d.fn x))
          exact q.cast fun env => by simp only [exec]
      · simp only [Bool.and_eq_true] at h3
        have q := ss_set (b := fz) (pos' := px) (pos := pos) hn0 hNd hi hl (hE F0 _ _ h3.2 (by simpa only [GoodS] using gd)).se (swaps_of h3.1) (.inl (d.fn x))
        exact q.cast fun env => by simp only [exec]
    | setT t e =>
      simp only [chkS] at h
      split at h <;> first | (cases h; done) | skip
      rename_i tg y pos
      simp only [Bool.and_eq_true] at h
      obtain ⟨⟨⟨⟨⟨h0, h1⟩, h2⟩, h3⟩, h4⟩, h5⟩ := h
      have tc : TCok X N sc := ⟨c.N_eq, c.nd, fun x hx => ⟨by rw [c.sc_eq]; exact locB_loc hx, .inl (d.fn x)⟩, (c.calm h0).1⟩
      have hst : nStar tg = true := by cases tg <;> first | rfl | cases h1
      have q := ss_setT (pos := pos) (hE F0 _ _ h5 (by simpa only [GoodS] using gd)).se (fun F0 => snd_T tc t tg h4) (by show swapsWith y (some tg) _ _ = _; exact swaps_of h3) (stores_of h2) (by rw [assignEach_cons hst]; rfl)
      exact q.cast fun env => by simp only [exec]
    | setI i kx e =>
      simp only [chkS] at h
      split at h <;> first | (cases h; done) | skip
      rename_i x px z ap y pos
      simp only [Bool.and_eq_true] at h
      simp only [GoodS] at gd
      obtain ⟨⟨⟨h1, h2⟩, h3⟩, h4⟩ := h
      obtain ⟨g1, g2, g3, g4⟩ := slot_of c h1
      have q := ss_setI (px := px) (apos := ap) (pos := pos) c.wd c.units g1 g2 g3 g4 (fun v => set_of h2) (hE F0 _ _ h4 gd.2).se (hE F0 _ _ h3 gd.1).se (by show swapsWith y (some (.Subscript (.Name x px) z ap)) pos.line X.env = _; exact swaps_tgt rfl) (stores_sub rfl) rfl
      exact q.cast fun env => by simp only [exec]
    | setF i C j m e =>
      simp only [chkS] at h
      split at h <;> first | (cases h; done) | skip
      rename_i x px m' ap y pos
      simp only [Bool.and_eq_true, decide_eq_true_eq] at h
      simp only [GoodS] at gd
      obtain ⟨⟨rfl, h1⟩, h2⟩ := h
      obtain ⟨g1, g2, g3, g4⟩ := slot_of c h1
      have nd : FldSet g X C j m := c.need _ gd.1
      have q := ss_setF (px := px) (apos := ap) (pos := pos) nd g1 g2 g3 g4 (hE F0 _ _ h2 gd.2).se (swaps_tgt rfl)
      exact q.cast fun env => by simp only [exec]
    | app i e =>
      simp only [chkS] at h
      split at h <;> first | (cases h; done) | skip
      rename_i x px m ap y p pos
      simp only [Bool.and_eq_true, decide_eq_true_eq] at h
      obtain ⟨⟨⟨⟨rfl, h1⟩, h2⟩, h3⟩, h4⟩ := h
      obtain ⟨g1, g2, g3, g4⟩ := slot_of c h1
      have hs : nStars [y] = true := by simp [nStars, h3]
      have q := ss_app (px := px) (apos := ap) (pos := p) (spos := pos) g1 g2 g3 g4 (hE F0 _ _ h4 (by simpa only [GoodS] using gd)).se (base_of rfl) (few_of hs (by show 1 < 29; omega)) h2 (star_cons h3) (swaps_of rfl)
      exact q.cast fun env => by simp only [exec]
    | ext i e =>
      simp only [chkS] at h
      split at h <;> first | (cases h; done) | skip
      rename_i x px m ap y p pos
      simp only [Bool.and_eq_true, decide_eq_true_eq] at h
      obtain ⟨⟨⟨⟨rfl, h1⟩, h2⟩, h3⟩, h4⟩ := h
      obtain ⟨g1, g2, g3, g4⟩ := slot_of c h1
      have hs : nStars [y] = true := by simp [nStars, h3]
      have q := ss_ext (px := px) (apos := ap) (pos := p) (spos := pos) g1 g2 g3 g4 (hE F0 _ _ h4 (by simpa only [GoodS] using gd)).se (base_of rfl) (few_of hs (by show 1 < 29; omega)) h2 (star_cons h3) (swaps_of rfl)
      exact q.cast fun env => by simp only [exec]
    | ex e =>
      simp only [chkS] at h
      split at h <;> first | (cases h; done) | skip
      simp only [Bool.and_eq_true] at h
      have q := ss_ex (pos := ‹_›) (hE F0 _ _ h.2 (by simpa only [GoodS] using gd)).se (swaps_of h.1)
      exact q.cast fun env => by simp only [exec]
    | iff d' a b =>
      simp only [chkS] at h
      split at h <;> first | (cases h; done) | skip
      simp only [Bool.and_eq_true] at h
      simp only [GoodS] at gd
      have q := ss_iff (pos := ‹_›) (hE F0 _ _ h.1.1 gd.1).st (snd_Ss (hS F0) h.1.2 gd.2.1) (snd_Ss (hS F0) h.2 gd.2.2)
      exact q.cast fun env => by simp only [exec]
    | for_ t sk src body fg =>
      simp only [chkS] at h
      split at h <;> first | (cases h; done) | skip
      rename_i tg iter b pos
      simp only [Bool.and_eq_true] at h
      simp only [GoodS] at gd
      obtain ⟨⟨⟨⟨h0, h1⟩, h2⟩, h3⟩, h4⟩ := h
      have tc : TCok X N sc := ⟨c.N_eq, c.nd, fun x hx => ⟨by rw [c.sc_eq]; exact locB_loc hx, .inl (d.fn x)⟩, (c.calm h0).1⟩
      have q := ss_for (F0 := F0) (pos := pos) (fg := fg) (d.dm h0).2.2 (c.calm h0).1 (fun F0 => snd_I (lend := false) c (hE F0) h2 gd.1) (fun F0 => snd_T tc t tg h3) (fun F0 => snd_Ss (hS F0) h4 gd.2) (fun x => fold_of h1 x)
      exact q.cast fun env => by simp only [exec]; rw [srcF_for]
    | whl d' b fg =>
      simp only [chkS] at h
      split at h <;> first | (cases h; done) | skip
      simp only [Bool.and_eq_true] at h
      simp only [GoodS] at gd
      obtain ⟨⟨h0, h1⟩, h2⟩ := h
      have q := ss_whl (F0 := F0) (pos := ‹_›) (fg := fg) (d.dm h0).2.2 (hE F0 _ _ h1 gd.1).st (snd_Ss (hS F0) h2 gd.2)
      exact q.cast fun env => by simp only [exec]
    | ret e =>
      simp only [chkS] at h
      split at h <;> first | (cases h; done) | skip
      have q := ss_ret (pos := ‹_›) (hE F0 _ _ h (by simpa only [GoodS] using gd)).se
      exact q.cast fun env => by simp only [exec]
    | retV i =>
      simp only [chkS] at h
      split at h <;> first | (cases h; done) | skip
      obtain ⟨g1, g2, g3, g4⟩ := slot_of c h
      refine (ss_retV g1 g2 g3 g4).cast fun env => ?_
      simp only [exec]
      all_goals
        cases env[i]? with
        | none => rfl
        | some o =>
          cases o with
          | none => rfl
          | some mv => obtain ⟨m, d⟩ := mv; cases m <;> rfl
    | retN =>
      simp only [chkS] at h
      split at h <;> first | (cases h; done) | skip
      exact ss_retN.cast fun env => by simp only [exec]
    | rse x C es =>
      simp only [chkS] at h
      split at h <;> first | (cases h; done) | skip
      rename_i y py xs p2 pos
      simp only [Bool.and_eq_true, decide_eq_true_eq] at h
      simp only [GoodS] at gd
      obtain ⟨⟨⟨⟨⟨h0, rfl⟩, h1⟩, h2⟩, h3⟩, h4⟩ := h
      obtain ⟨g1, g2, _⟩ := gl_of c h1
      obtain ⟨hc, hr, tk, _⟩ := c.calm h0
      obtain ⟨n1, n2, n3, n4⟩ : RseOk g X k x C es.length := c.need _ gd.1
      cases xs with
      | nil =>
        cases es with
        | nil => simp at h2
        | cons _ _ => cases h4
      | cons z zs =>
        have sa := snd_L (hE F0) h4 h3 gd.2
        have q := ss_rse (pos := pos) hc tk (by rw [n1]; exact n3) (n4 X rfl rfl rfl rfl rfl hr hc z zs _ py p2 sa h3 g1) (fun env vs e => by rw [evals_len e, n1]) (fun e => by rw [e] at n1; simp at n1; omega)
        exact q.cast fun env => by simp only [exec]
    | rsT x C t =>
      simp only [chkS] at h
      split at h <;> first | (cases h; done) | skip
      simp only [Bool.and_eq_true, decide_eq_true_eq] at h
      simp only [GoodS] at gd
      obtain ⟨⟨⟨h0, rfl⟩, h1⟩, rfl⟩ := h
      obtain ⟨g1, g2, _⟩ := gl_of c h1
      obtain ⟨hc, hr, tk, _⟩ := c.calm h0
      have nd := c.need _ gd
      exact (ss_rsT hc tk (pmk_own PySem.F.excBase_ValueError nd.own nd.mg nd.kp (raises_own nd.ex nd.ty) g1 g2)).cast fun env => by simp only [exec]
    | brk =>
      simp only [chkS] at h
      split at h <;> first | (cases h; done) | skip
      exact ss_brk.cast fun env => by simp only [exec]
    | cnt =>
      simp only [chkS] at h
      split at h <;> first | (cases h; done) | skip
      exact ss_cnt.cast fun env => by simp only [exec]
    | mov i j =>
      simp only [chkS] at h
      split at h <;> first | (cases h; done) | skip
      rename_i x px y py pos
      simp only [Bool.and_eq_true, decide_eq_true_eq] at h
      obtain ⟨⟨⟨⟨h1, h2⟩, h3⟩, h4⟩, h5⟩ := h
      obtain ⟨g1, g2, g3, g4⟩ := slot_of c h5
      have q := ss_mov (g := g) (xo := xo) (F0 := F0) (H0 := H0) (W := W) (px := px) (py := py) (pos := pos) h2 h1 hNd (by rw [c.N_eq]; exact h3) (by rw [c.sc_eq]; exact locB_loc h4) g1 g2 g3 g4 (swaps_of rfl) (.inl (d.fn x))
      exact q.cast fun env => by
        simp only [exec]
        all_goals (rcases env[j]? with _ | _ | ⟨m, d⟩ <;> first | rfl | (cases m <;> rfl))
    | pass =>
      simp only [chkS] at h
      split at h <;> first | (cases h; done) | skip
      exact ss_pass.cast fun env => by simp only [exec]
    | tryA body y C tab i suite =>
      simp only [chkS] at h
      split at h <;> first | (cases h; done) | skip
      rename_i b y' np x u hp pos
      simp only [Bool.and_eq_true, decide_eq_true_eq] at h
      simp only [GoodS] at gd
      obtain ⟨⟨⟨⟨⟨⟨⟨h0, rfl⟩, h1⟩, h2⟩, h3⟩, h4⟩, h5⟩, h6⟩ := h
      obtain ⟨g1, g2, g3⟩ := gl_of c h1
      obtain ⟨hc, hr, tk, hxo⟩ := c.calm h0
      obtain ⟨x0, pin⟩ := xo
      obtain rfl : x0 = none := hxo
      have ct : CatchOk' g X y C tab := c.need _ gd.1
      obtain ⟨d1, d2, d3⟩ := d.dm h0
      cases u with
      | nil => simp at h4
      | cons b₀ u =>
        have q := ss_tryA (pin := pin) (F0 := F0) (H0 := H0) (np := np) (pos' := hp) (pos := pos) (i := i) (n := x) d1 d2 hNd (by rw [c.N_eq]; exact h2) (by unfold PySem.Env.kindOf; rw [c.sc_eq]; exact h3) (⟨⟨g1, g2, .inl ct.mg⟩, ct.exm⟩ : CatchOk g X y C tab) tk
          (fb := execs body) (fs := execs suite) (body := b) (suite := u) (b₀ := b₀) (fun W' pn xe tk' hp' => ?_) (fun x' X' hx' ⟨oe, pn, e⟩ => ?_)
        · exact q.cast fun env => by simp only [exec]
        · refine snd_Ss (fun s st h gd => ih (X := X.tr pn xe) (calm := true) ⟨⟨c.N_eq, c.nd, c.sc_eq, c.kind, .none _ _, c.bi, c.units, c.wd, fun n hn => need_cx (X := X) rfl rfl rfl rfl rfl (c.need n hn), fun _ => ⟨hc, hr, tk', rfl⟩⟩, d.fn, fun _ => ⟨d1, d2, hp'⟩⟩ s st h gd) h5 gd.2.1
        · subst e
          refine snd_Ss (fun s st h gd => ih (X := X.suite x'.a ((x'.a, oe) :: pn)) (calm := false) ⟨⟨c.N_eq, c.nd, c.sc_eq, c.kind, hx', c.bi, c.units, c.wd, fun n hn => need_cx (X := X) rfl rfl rfl rfl rfl (c.need n hn), fun z => by cases z⟩, d.fn, fun z => by cases z⟩ s st h gd) h6 gd.2.2
    | tryO b x C tab u => simp [chkS] at h
    | fz is => simp [chkS] at h
    | fg is => simp [chkS] at h
end
end Fx

/-! From a def's literal to its promise. -/
namespace Fx
open PySem PySem.Spec PyProof.Rows L2
/-- a need, of the program as it is made -/
def NeedP (g : Tab) (P : Program) (w : World) (K : PySem.W.Frag) (mg : Str → Option Value) (base : Heap) (k : Nat) (n : Need) : Prop := ∀ X : Cx, X.prog = P → X.w = w → X.K = K → X.mg = mg → X.base = base → NeedOk g X k n
section
variable {g : Tab} {P : Program} {w : World} {K : PySem.W.Frag} {mg : Str → Option Value} {base : Heap} {k : Nat}
theorem ars_slots {F H B : Hp} {mvs : List Val} {vs : List V} (h : AReps K g B F B mvs vs) (hs : ∀ p o, B p = some o → H p = some o) (σ : L2.St) (off : Nat) (hσ : ∀ j v, vs[j]? = some v → σ[off + j]? = some (some v)) (pin : Option Addr) :
    ∀ (j : Nat) (mv : Val), mvs[j]? = some mv → SlotR K g ⟨none, pin⟩ B F H σ (off + j) (toArg mv) := by
  have key : ∀ {mvs : List Val} {vs : List V}, AReps K g B F B mvs vs → ∀ (j : Nat) (mv : Val), mvs[j]? = some mv → ∃ v, vs[j]? = some v ∧ ARep K g B F B mv v := by
    intro mvs vs h
    induction h with
    | nil => intro j mv e; cases e
    | @cons mv v mvs vs a _ ih =>
      intro j mw e
      cases j with
      | zero => cases e; exact ⟨v, rfl, a⟩
      | succ j => exact ih j mw e
  intro j mv e
  obtain ⟨v, hv, a⟩ := key h j mv e
  have hs' : σ[off + j]? = some (some v) := hσ j v hv
  obtain ⟨m, d⟩ := mv
  cases m with
  | frz => exact SlotR.frz hs' a
  | own => exact a.elim
  | bor =>
    obtain ⟨p, rfl, z, o⟩ := a
    exact ⟨p, hs', z, o.mono (fun _ _ q => q) fun o' q => hs _ _ q⟩
  | lnt =>
    obtain ⟨p, rfl, o⟩ := a
    obtain ⟨u, hu⟩ := o.there
    exact ⟨p, hs', by rw [hu]; simp, o.mono (fun _ _ q => q) fun o' q => hs _ _ q⟩
theorem toArg_own {mv : Val} {d : Fx.D} {F H H0 : Hp} {v : V} (a : ARep K g H0 F H mv v) : toArg mv ≠ (Mode.own, d) := by
  obtain ⟨m, d'⟩ := mv
  cases m <;> intro h <;> cases h
  exact a.elim
theorem noOwn {F H : Hp} {mvs : List Val} {vs : List V} (h : AReps K g H F H mvs vs) : ∀ (j : Nat) (d : Fx.D) (n : Nat), (mvs.map (fun v => some (toArg v)) ++ List.replicate n (none : Option Val))[j]? ≠ some (some (Mode.own, d)) := by
  induction h with
  | nil =>
    intro j d n e
    simp only [List.map_nil, List.nil_append] at e
    rw [List.getElem?_replicate] at e
    split at e <;> simp at e
  | @cons mv v mvs vs a _ ih =>
    intro j d n e
    cases j with
    | zero => simp only [List.map_cons, List.cons_append, List.getElem?_cons_zero, Option.some.injEq] at e; exact toArg_own a e
    | succ j => exact ih j d n (by simpa using e)
theorem env_get {mvs : List Val} {n j : Nat} {mv : Val} (e : (mvs.map (fun v => some (toArg v)) ++ List.replicate n (none : Option Val))[j]? = some (some mv)) : ∃ mw, mvs[j]? = some mw ∧ toArg mw = mv := by
  by_cases hj : j < mvs.length
  · rw [List.getElem?_append_left (by simpa using hj), List.getElem?_map] at e
    cases q : mvs[j]? with
    | none => rw [q] at e; cases e
    | some mw => rw [q] at e; cases e; exact ⟨mw, rfl, rfl⟩
  · rw [List.getElem?_append_right (by simpa using Nat.le_of_not_lt hj), List.getElem?_replicate] at e
    split at e <;> simp at e
/-- THE RULE for a def -/
theorem fn_run {n : Nat} {x qual : Str} {st : Stmt} {f : Addr} {fd : FuncData} {N ps : List Str} (F : L2.Fun K x qual st f fd) (S : FnScope N ps (defScope st)) (hw : g.wd = w) (bi : ∀ x, isBi x = true → mg x = none) {body : List Fx.S}
    (h : chkSs (chkS n N (defScope st) true) body (defBody st) = true) (gd : GoodSs (NeedP g P w K mg base k) body) : FnOk P w K mg base (L2.CX P w) (k + 1) f fd ps (spOf K g (runDef ps.length N.length body)) := by
  have hlen : ∀ vs H Q E, spOf K g (runDef ps.length N.length body) vs H Q E → vs.length = ps.length := by
    intro vs H Q E ⟨F1, mvs, hs, ar, hm⟩
    rw [ar.len]
    by_cases hl : mvs.length = ps.length
    · exact hl
    · unfold runDef at hm
      rw [if_neg hl] at hm
      exact hm.elim
  refine F.okX S hlen fun cdv A outer s H vs Q E hr hsp => ?_
  have hvl := hlen _ _ _ _ hsp
  obtain ⟨F1, mvs, hs, ar, hm⟩ := hsp
  have hl : mvs.length = ps.length := by rw [← ar.len]; exact hvl
  have hNp : ps.length ≤ N.length := by
    have := S.pre
    have q := congrArg List.length this
    rw [List.length_take] at q
    omega
  generalize hX : cxOf (L2.CX P w) P w K mg base N qual (defScope st) f cdv A outer s H E = X
  have X1 : X.prog = P := by rw [← hX]; rfl
  have X2 : X.w = w := by rw [← hX]; rfl
  have X3 : X.K = K := by rw [← hX]; rfl
  have X4 : X.mg = mg := by rw [← hX]; rfl
  have X5 : X.base = base := by rw [← hX]; rfl
  have dk : Dok g (NeedP g P w K mg base k) k ⟨none, none⟩ (fun cls d _ H => E cls d H) X N (defScope st) true := by
    refine ⟨⟨by rw [← hX]; rfl, S.nd, by rw [← hX]; rfl, S.kind, .none _ _, by rw [X4]; exact bi, ?_, by rw [X2]; exact hw, fun n hn => hn X X1 X2 X3 X4 X5, fun _ => ⟨by rw [← hX]; rfl, by rw [← hX]; exact hr, ?_, rfl⟩⟩, by rw [← hX]; exact fun _ => rfl, fun _ => ⟨by rw [← hX]; rfl, by rw [← hX]; rfl, ?_⟩⟩
    · have := hr.un
      rw [← hX]
      show (A.deeper _).units + 65 < cLine
      omega
    · rw [← hX]; exact takes_of rfl rfl rfl rfl
    · rw [← hX]; exact passes_of rfl
  refine ⟨_, snd_Ss (F0 := F1) (H0 := H) (fun s st h gd => sndS n dk s st h gd) h gd, ?_⟩
  rw [X3]
  unfold runDef at hm
  rw [if_pos hl] at hm
  refine ⟨F1, mvs.map (fun v => some (toArg v)) ++ List.replicate (N.length - mvs.length) none, ⟨Ext.refl hs, ?_, fun i mv e => ?_, fun i j d e p hij h1 _ _ _ => noOwn ar i d _ h1⟩, ?_⟩
  · unfold L2.start
    simp only [List.length_append, List.length_map, List.length_replicate, ar.len]
  · obtain ⟨mw, e1, rfl⟩ := env_get e
    have q := ars_slots (H := H) ar (fun _ _ q => q) (L2.start N vs) 0 (fun j v hv => ?_) none i mw e1
    · rwa [Nat.zero_add] at q
    · rw [Nat.zero_add]
      unfold L2.start
      have hj := (List.getElem?_eq_some_iff.mp hv).1
      rw [List.getElem?_append_left (by simpa using hj), List.getElem?_map, hv]
      rfl
  · cases q : execs body (mvs.map (fun v => some (toArg v)) ++ List.replicate (N.length - mvs.length) none) with
    | nx env1 =>
      rw [q] at hm
      exact fun σ' F' H' R => hm .non F' H' R.ext (show Rep K g F' .non .non from by simp only [Rep])
    | rt mv => rw [q] at hm; exact fun v F' H' e r => hm v F' H' e r
    | ex C fs env1 => rw [q] at hm; exact fun σ' dx F' H' R x => hm dx F' H' R.ext x
    | bk env1 => rw [q] at hm; exact hm.elim
    | ct env1 => rw [q] at hm; exact hm.elim
    | no => rw [q] at hm; exact hm.elim
/-- THE RULE for an __init__ -/
theorem init_run {n : Nat} {C : Nat} {x qual : Str} {st : Stmt} {f : Addr} {fd : FuncData} {N ps : List Str} (F : L2.Fun K x qual st f fd) (S : FnScope N ps (defScope st)) (hw : g.wd = w) (bi : ∀ x, isBi x = true → mg x = none) {body : List Fx.S}
    (h : chkSs (chkS n N (defScope st) true) body (defBody st) = true) (gd : GoodSs (NeedP g P w K mg base k) body) : FnOk P w K mg base (L2.CX P w) (k + 1) f fd ps (spInit K g C (runInit C ps.length N.length body)) := by
  have hlen : ∀ vs H Q E, spInit K g C (runInit C ps.length N.length body) vs H Q E → vs.length = ps.length := by
    intro vs H Q E ⟨F1, a, dx, ws, mvs, e, _, _, hs, ar, hm⟩
    subst e
    rw [List.length_cons, ar.len]
    by_cases hl : mvs.length + 1 = ps.length
    · exact hl
    · unfold runInit at hm
      rw [if_neg hl] at hm
      exact hm.elim
  refine F.okX S hlen fun cdv A outer s H vs Q E hr hsp => ?_
  have hvl := hlen _ _ _ _ hsp
  obtain ⟨F1, a, dx, ws, mvs, rfl, ha, hFa, hs, ar, hm⟩ := hsp
  have hl : mvs.length + 1 = ps.length := by rw [← ar.len]; exact hvl
  have hNp : ps.length ≤ N.length := by
    have := S.pre
    have q := congrArg List.length this
    rw [List.length_take] at q
    omega
  generalize hX : cxOf (L2.CX P w) P w K mg base N qual (defScope st) f cdv A outer s H E = X
  have X1 : X.prog = P := by rw [← hX]; rfl
  have X2 : X.w = w := by rw [← hX]; rfl
  have X3 : X.K = K := by rw [← hX]; rfl
  have X4 : X.mg = mg := by rw [← hX]; rfl
  have X5 : X.base = base := by rw [← hX]; rfl
  have dk : Dok g (NeedP g P w K mg base k) k ⟨none, some a⟩ (fun cls d _ H => E cls d H) X N (defScope st) true := by
    refine ⟨⟨by rw [← hX]; rfl, S.nd, by rw [← hX]; rfl, S.kind, .none _ _, by rw [X4]; exact bi, ?_, by rw [X2]; exact hw, fun n hn => hn X X1 X2 X3 X4 X5, fun _ => ⟨by rw [← hX]; rfl, by rw [← hX]; exact hr, ?_, rfl⟩⟩, by rw [← hX]; exact fun _ => rfl, fun _ => ⟨by rw [← hX]; rfl, by rw [← hX]; rfl, ?_⟩⟩
    · have := hr.un
      rw [← hX]
      show (A.deeper _).units + 65 < cLine
      omega
    · rw [← hX]; exact takes_of rfl rfl rfl rfl
    · rw [← hX]; exact passes_of rfl
  refine ⟨_, snd_Ss (F0 := F1) (H0 := delH H a) (fun s st h gd => sndS n dk s st h gd) h gd, ?_⟩
  rw [X3]
  unfold runInit at hm
  rw [if_pos hl] at hm
  have hdel : ∀ p o, delH H a p = some o → H p = some o := fun p o q => by
    by_cases hp : p = a
    · subst hp; rw [delH_same] at q; cases q
    · rw [delH_ne hp] at q; exact q
  have sl0 : SlotR K g ⟨none, some a⟩ (delH H a) F1 H (L2.start N (V.ref a :: ws)) 0 (.own, .ins C []) := by
    refine ⟨a, ?_, hFa, delH_same, fun _ b e => by cases e; rfl, dx, [], by rw [ha]; simp, .nil⟩
    unfold L2.start
    rfl
  refine ⟨F1, some (.own, .ins C []) :: mvs.map (fun v => some (toArg v)) ++ List.replicate (N.length - (mvs.length + 1)) none, ⟨⟨hdel, fun _ _ q => q, fun _ _ q => .inl q, fun b o q => hdel b o (hs b o q)⟩, ?_, fun i mv e => ?_, fun i j d e p hij h1 h2 _ _ => ?_⟩, ?_⟩
  · unfold L2.start
    simp only [List.length_append, List.length_map, List.length_replicate, List.length_cons, ar.len]
  · cases i with
    | zero => cases e; exact sl0
    | succ i =>
      rw [List.cons_append, List.getElem?_cons_succ] at e
      obtain ⟨mw, e1, rfl⟩ := env_get e
      have q := ars_slots (H := H) ar hdel (L2.start N (V.ref a :: ws)) 1 (fun j v hv => ?_) (some a) i mw e1
      · rwa [Nat.add_comm] at q
      · rw [Nat.add_comm]
        unfold L2.start
        have hj := (List.getElem?_eq_some_iff.mp hv).1
        rw [List.getElem?_append_left (by simpa using hj), List.getElem?_map, List.getElem?_cons_succ, hv]
        rfl
  · cases i with
    | zero =>
      cases j with
      | zero => exact hij rfl
      | succ j => exact noOwn ar j _ _ (by simpa using h2)
    | succ i => exact noOwn ar i _ _ (by simpa using h1)
  · cases q : execs body (some (.own, .ins C []) :: mvs.map (fun v => some (toArg v)) ++ List.replicate (N.length - (mvs.length + 1)) none) with
    | nx env1 =>
      rw [q] at hm
      dsimp only at hm
      intro σ' F' H' R
      cases q1 : ownS env1 0 with
      | ex C fs => rw [q1] at hm; exact hm.elim
      | no => rw [q1] at hm; exact hm.elim
      | ok d =>
        rw [q1] at hm
        simp only [noEx_ok, Fx.R.bind_ok] at hm
        cases d with
        | ins C' fs =>
          simp only [asIns] at hm
          by_cases hC : C = C'
          · subst hC
            rw [if_pos rfl] at hm
            simp only [Fx.R.bind_ok] at hm
            obtain ⟨p, hp, hf, h0, hpn, ho⟩ := R.slot 0 _ (ownS_inv q1)
            have e : p = a := hpn rfl a rfl
            subst e
            exact hm F' H' R.ext hf ho (by first | trivial | rfl)
          · rw [if_neg hC] at hm
            exact hm.elim
        | _ => exact hm.elim
    | rt mv => rw [q] at hm; exact hm.elim
    | ex C fs env1 => rw [q] at hm; exact fun σ' dx F' H' R x => hm dx F' H' R.ext x
    | bk env1 => rw [q] at hm; exact hm.elim
    | ct env1 => rw [q] at hm; exact hm.elim
    | no => rw [q] at hm; exact hm.elim
theorem runInit_own {C np n : Nat} {body : List Fx.S} : ∀ mvs mv, runInit C np n body mvs = .ok mv → mv.1 = .own := by
  intro mvs mv h
  unfold runInit at h
  split at h
  · split at h
    · rename_i env _
      cases q : ownS env 0 with
      | ok d =>
        rw [q] at h
        simp only [noEx_ok, Fx.R.bind_ok] at h
        cases q2 : asIns C d with
        | ok fs => rw [q2] at h; cases h; rfl
        | ex C' fs => rw [q2] at h; cases h
        | no => rw [q2] at h; cases h
      | ex C' fs => rw [q] at h; cases h
      | no => rw [q] at h; cases h
    · cases h
    · cases h
  · cases h
/-! ### the needs -/
theorem need_call {x : Str} {φ : Sem'} {f : Addr} {fd : FuncData} {ps : List Str} {j : Nat} (F : FnOk P w K mg base (L2.CX P w) j f fd ps (spOf K g φ)) (hj : j ≤ k) (hm : mg x = some (.ref f)) (hk : PySem.W.keepIn K (.ref f) = true) (hb : Binds K fd ps []) : NeedP g P w K mg base k (.call x φ) := by
  intro X h1 h2 h3 h4 h5
  subst h1 h2 h3 h4 h5
  exact .inl ⟨f, fd, ps, j, hj, F, hm, hk, hb⟩
theorem need_new {x : Str} {C : Nat} {φ : Sem'} {f : Addr} {fd : FuncData} {ps : List Str} {j : Nat} (F : FnOk P w K mg base (L2.CX P w) j f fd ps (spInit K g C φ)) (hj : j + 1 ≤ k) (hm : mg x = some (.ref (g.ca C))) (mk : Mk K (g.ca C) f) (hb : Binds K fd ps []) (ho : ∀ mvs mv, φ mvs = .ok mv → mv.1 = .own) : NeedP g P w K mg base k (.new x C φ) := by
  intro X h1 h2 h3 h4 h5
  subst h1 h2 h3 h4 h5
  exact ⟨⟨f, fd, ps, j, hj, F, hm, mk, hb⟩, ho⟩
theorem need_meth {m : Str} {C : Nat} {φ : Sem'} {f : Addr} {fd : FuncData} {ps : List Str} {j : Nat} (F : FnOk P w K mg base (L2.CX P w) j f fd ps (spOf K g φ)) (hj : j ≤ k) (cl : Cls K (g.ca C)) (me : Meth K (g.ca C) m f) (hb : Binds K fd ps []) (hc : (g.cf C).contains m = false) : NeedP g P w K mg base k (.meth C m φ) := by
  intro X h1 h2 h3 h4 h5
  subst h1 h2 h3 h4 h5
  exact ⟨f, fd, ps, j, hj, F, cl, me, hb, hc⟩
theorem need_prop {m : Str} {C : Nat} {φ : Sem'} {f p : Addr} {fd : FuncData} {ps : List Str} {j : Nat} (F : FnOk P w K mg base (L2.CX P w) j f fd ps (spOf K g φ)) (hj : j + 1 ≤ k) (cl : Cls K (g.ca C)) (pr : PropOf K (g.ca C) m p f) (hb : Binds K fd ps []) : NeedP g P w K mg base k (.prop C m φ) := by
  intro X h1 h2 h3 h4 h5
  subst h1 h2 h3 h4 h5
  exact ⟨p, f, fd, ps, j, hj, F, cl, pr, hb⟩
theorem need_fld {m : Str} {C j : Nat} (cl : Cls K (g.ca C)) (no : NoAttr K (g.ca C) m) (at_ : (g.cf C)[j]? = some m) (nd : (g.cf C).Nodup) : NeedP g P w K mg base k (.fld C j m) := by
  intro X h1 h2 h3 h4 h5
  subst h1 h2 h3 h4 h5
  exact ⟨cl, no, at_, nd⟩
theorem need_fldS {m : Str} {C j : Nat} (cl : Cls K (g.ca C)) (no : NoAttr K (g.ca C) m) (at_ : (g.cf C)[j]? = some m) (nd : (g.cf C).Nodup) (hl : (g.cf C).length < 1000) : NeedP g P w K mg base k (.fldS C j m) := by
  intro X h1 h2 h3 h4 h5
  subst h1 h2 h3 h4 h5
  exact ⟨⟨cl, no, at_, nd⟩, hl⟩
theorem need_gcon {x : Str} {d : Fx.D} {u : Value} {v : V} (hm : mg x = some u) (r : L2.RelV v u) (rep : ∀ F, Rep K g F d v) : NeedP g P w K mg base k (.gcon x d) := by
  intro X h1 h2 h3 h4 h5
  subst h1 h2 h3 h4 h5
  exact ⟨u, v, hm, r, rep⟩
theorem need_ccon {x m : Str} {C : Nat} {d : Fx.D} {mc u : Value} {v : V} (hm : mg x = some (.ref (g.ca C))) (rd : ClX.CRead K (g.ca C) mc) (cv : ClX.CVal K (g.ca C) mc m v u) (rep : ∀ F, Rep K g F d v) : NeedP g P w K mg base k (.ccon x C m d) := by
  intro X h1 h2 h3 h4 h5
  subst h1 h2 h3 h4 h5
  exact ⟨mc, u, v, hm, rd, cv, rep⟩
theorem need_isi {t : Ty} (ht : isCls t = false) (h0 : mg "isinstance" = none) (h1 : mg (tyName t) = none) : NeedP g P w K mg base k (.isi t) := by
  intro X e1 e2 e3 e4 e5
  subst e1 e2 e3 e4 e5
  exact ⟨h0, fun _ => h1, fun C x e => by subst e; cases ht⟩
theorem need_xfld {C j : Nat} {n : Str} (h : XfOk g K C j n) : NeedP g P w K mg base k (.xfld C j n) := by
  intro X h1 h2 h3 h4 h5
  subst h1 h2 h3 h4 h5
  exact h
theorem need_xis {y : Str} {C : Nat} {tab : List (Nat × Bool)} (hm : mg y = some (.ref (g.xa C))) (ht : ∀ C' b, tab.lookup C' = some b → XisC K (g.xa C') ∧ PySem.W.kitOne K (.ref (g.xa C')) (.ref (g.xa C)) = some b) : NeedP g P w K mg base k (.xis y C tab) := by
  intro X h1 h2 h3 h4 h5
  subst h1 h2 h3 h4 h5
  exact ⟨hm, ht⟩
theorem need_catch {y : Str} {C : Nat} {tab : List (Nat × Bool)} (hm : mg y = some (.ref (g.xa C))) (ht : ∀ C' b, tab.lookup C' = some b → PySem.W.exmOne K (.ref (g.xa C')) (.ref (g.xa C)) = some b) : NeedP g P w K mg base k (.catch_ y C tab) := by
  intro X h1 h2 h3 h4 h5
  subst h1 h2 h3 h4 h5
  exact ⟨hm, ht⟩
end
end Fx

/-! Own errors whose __init__ says super().__init__(a text) and keeps its one argument. -/
namespace FxS

open PySem PySem.W PySem.Calls PyProof.Rows PySem.HandSPX
section
variable {prog : Program} {w : World} {A : Around} {E : Value → Shared → Prop} {h : Heap} {g : Array GenState} {d : Drawn} {t : Nat} {os : OsState}
variable {nm q : Str} {C N : Addr} {bs bm : List Value} {hdct : Bool} {sn : List Str} {sub : List Value} {ab : Bool} {col : Option Bool} {dd : Option Addr} {k0 k1 k2 k3 k5 : Option Value}
/-- ValueError.__init__ bound to an instance, called -/
theorem vw_call {u e t0 : Addr} {rest : List Value} {Q : Value → Shared → Prop}
    (hC : h.get? C = some (excClassObj nm q C N bs bm hdct sn sub ab col dd k0 k1 k2 k3 k5 "ValueError.__new__")) (he : h.get? e = some (HandSPX.excO C t0)) (hu : h.get? u = some (kxs_mw "ValueError.__init__" e)) (hrest : rest.length ≤ sizeLine)
    (hq : ∀ h' t1, (∀ b o, b ≠ e → h.get? b = some o → h'.get? b = some o) → h'.get? e = some (HandSPX.excO C t1) → Q .none ⟨h', g, d, t, os⟩) :
    wpAny (model prog w) A (call (.ref u) rest) Q E ⟨h, g, d, t, os⟩ := by
  refine wpAny_call (codeAny_of_tree ?_)
  show wpAny _ A.in1 (callAny (.ref u) ⟨rest, []⟩) _ _ _
  simp only [callAny]
  refine wpAny_bind (wpAny_load hu ?_)
  simp only [kxs_mw, show (Value.type "method-wrapper" == Value.type "method" || Value.type "method-wrapper" == Value.type "builtin_function_or_method" || Value.type "method-wrapper" == Value.type "method-wrapper") = true by decide, if_true]
  refine W.KFB.if_so (by decide) ?_
  refine wpAny_bind (check_bound_init F.excBase_ValueError.toExcCallFacts hC he rfl ?_)
  refine wpAny_bind (wpAny_pure (wpAny_pure ?_))
  refine ⟨Code.quiet_builtin _ (by decide +kernel), codeAny_builtin F.excBase_ValueError.initEntry ?_⟩
  rw [Around.under_plainId F.excBase_ValueError.init.plain _]
  wp_walk
  refine hq _ h.objs.size (fun b o hb ho => ?_) ?_
  · rw [Heap.get?_update_other _ _ (Ne.symm hb)]
    exact Heap.get?_push_of_some _ ho
  · rw [Heap.get?_update_self _ (Heap.get?_push_of_some _ he) rfl]
    rfl
end
/-- what the written part says of the class x at C, of its __init__, at fI -/
structure SupTxt (prog : Program) (K : Frag) (mg : Str → Option Value) (x fld : Str) (C fI : Addr) : Prop where
  gC : mg x = some (.ref C)
  cls : ∃ nm q N bs bm sn sub ab col dd k0 k1 k2 k3 k5, K.lookup C = some (excClassObj nm q C N bs bm true sn sub ab col dd k0 k1 k2 k3 k5 "ValueError.__new__") ∧ refsVE bm = true
  sa : findIn K (.ref C) "__setattr__" = some (some (.builtin "object.__setattr__"))
  noN : findIn K (.ref C) fld = some none
  iC : findIn K (.ref C) "__init__" = some (some (.ref fI))
  tC : typeIn K (.ref fI) = some (.type "function")
  kC : keepIn K (.ref C) = true
  exC : subIn K (.ref C) (.type "BaseException") = some true
  tyC : typeIn K (.ref C) = some (.type "type")
  ve : subIn K (.ref C) (.type "ValueError") = some true
  sup : ks_superIn K C C "__init__" = some (some (.builtin "ValueError.__init__"))
  tp : nsIn K cStatics "thirdparty.any" = some none
  own : mroIn K C (.ref C) = some true
  nsup : mg "super" = none
  fn : ∃ (st : Stmt) (oc : Value) (od : Option Addr) (doc pm kV : Value) (an : Option Addr) (cda cc : Addr) (ct : Value) (osl : Array (Option Value)) (ccl : Value) (cdd : Option Addr) (vs : Array Value) (ccs : Array (Option Value)) (file : Str) (tf : Tok) (cl : Value) (cld : Option Addr) (csl : Array (Option Value)) (qual txt : Str) (j : Nat)
      (p0 p1 p2 p3 p4 p5 p6 p7 p8 ap a1 a2 : Pos),
    K.lookup fI = some ⟨oc, od, .func (ksFn "__init__" qual (L2.defArgs st) (L2.defBody st) (L2.defScope st) .none kV doc pm an (.ref cda) ct cc), osl⟩ ∧ codeIn K (.ref cda) qual = true ∧
    K.lookup cda = some ⟨ccl, cdd, .fields vs, ccs⟩ ∧ vs[2]? = some (.str file tf) ∧ ((prog.main.file : Str) == file) = true ∧ K.lookup cc = some ⟨cl, cld, .cell (some (.ref C)), csl⟩ ∧
    L2.defArgs st = { posonlyargs := [], args := [{ arg := "self", annotation := none, pos := a1 }, { arg := fld, annotation := none, pos := a2 }], vararg := none, kwonlyargs := [], kw_defaults := [], kwarg := none, defaults := [] } ∧
    L2.defBody st = [.Expr (.Call (.Attribute (.Call (.Name "super" p0) [] [] p1) "__init__" ap) [.Constant (.str txt) j p2] [] p3) p4, .Assign [.Attribute (.Name "self" p5) fld p6] (.Name fld p7) p8] ∧ (ap.endLine == p3.line) = true ∧
    (L2.defScope st).kind = .function ∧ (L2.defScope st).isCoroutine = false ∧ (L2.defScope st).isGenerator = false ∧ (∀ x ∈ (L2.defScope st).names, x.2 ≠ .cell) ∧ (L2.defScope st).names.lookup ("self" : Str) = some .local ∧ (L2.defScope st).names.lookup fld = some .local ∧
    (L2.defScope st).names.lookup ("super" : Str) = some .globalImplicit ∧ (L2.defScope st).names.lookup ("__class__" : Str) = some .free ∧ (fld == ("__debug__" : Str)) = false ∧ (("self" : Str) == fld) = false ∧
    (∀ u v : Value, bindArgs (ksFn "__init__" qual (L2.defArgs st) (L2.defBody st) (L2.defScope st) .none kV doc pm an (.ref cda) ct cc) ⟨[u, v], []⟩ = pure [(("self" : Str), u), (fld, v)])
  top : (prog.main.scope.names.lookup ("super" : Str)).isSome = false
theorem one_size (v : Value) : [v].length ≤ sizeLine := by
  rw [sizeLine_eq]
  exact (by decide : 1 ≤ 16777216)
/-- what __init__ leaves of a fresh exception at x -/
structure InitEnd (fld : Str) (h h' : Heap) (x C dx t1 : Addr) (v : Value) : Prop where
  keep : ∀ b o, b ≠ x → h.get? b = some o → h'.get? b = some o
  obj : h'.get? x = some { cls := .ref C, dict := some dx, data := .fields #[.ref t1, .none, .none, .none, .bool false, .none] }
  dbig : h.objs.size ≤ dx
  dne : dx ≠ x
  ns : h'.Ns1 dx (fun y => if y = fld then some v else none)
section
variable {prog : Program} {w : World} {A : Around} {E : Value → Shared → Prop} {R : Result → Shared → Prop} {s : Shared} {K : Frag} {mg : Str → Option Value} {C fI : Addr} {x fld : Str}
theorem sup_init (T : SupTxt prog K mg x fld C fI) {e t0 : Addr} {v : Value} (X : K.In s.heap) (hlim : s.heap.NoLimit) (hG : s.heap.Ns mainGlobals mg) (hB : ∃ mb, s.heap.Ns builtinsNs mb ∧ mb "super" = bootBuiltins "super") (hx : s.heap.get? e = some (excO C t0)) (hnx : K.lookup e = none) (hroom : A.depth < recursionLimit)
    (hq : ∀ h' tk dx t1, InitEnd fld s.heap h' e C dx t1 v → R (.ok (.ret .none)) { s with heap := h', toks := tk }) :
    codeAny (model prog w) A (.call (.ref fI) ⟨[.ref e, v], []⟩) R s := by
  obtain ⟨st, oc, od, doc, pm, kV, an, cda, cc, ct, osl, ccl, cdd, vs, ccs, file, tf, cl, cld, csl, qual, txt, j, p0, p1, p2, p3, p4, p5, p6, p7, p8, ap, a1, a2, ho, hcd, hcode, hvs, hfile, hcell, hargs, hbody, hline, hk, hco, hgen, hnc, hself, hfld, hks, hkc, hdb, hne, hbind⟩ := T.fn
  obtain ⟨nm, q, N, bs, bm, sn, sub, ab, col, dd, k0, k1, k2, k3, k5, hC, hbm⟩ := T.cls
  have hcl : clsIn K C = some { name := nm, bases := bs, mro := .ref C :: bm, ns := N, qualname := q, hasDict := true, slotNames := sn, subclasses := sub, abstract := ab, collection := col, hasDel := false } := by unfold clsIn; rw [hC] <;> rfl
  rw [hargs, hbody] at ho hbind
  generalize hsc : L2.defScope st = sc at *
  refine ks_codeAny_call_defAt (binds := [("self", .ref e), (fld, v)]) hroom (X _ _ ho) rfl hlim (codeRec_of X hcd) rfl (BindsTo.of_eq (hbind _ _)) hnc (fun y hy => ?_) (fun h₁ hns hk₁ => ?_) hco hgen hk
  · rcases List.mem_cons.mp hy with rfl | hy
    · exact hself
    · rcases List.mem_cons.mp hy with rfl | hy
      · exact hfld
      · cases hy
  obtain ⟨hp, g, dr, tk, os⟩ := s
  have X₁ : K.In h₁ := X.keeps hk₁
  have hx₁ := hk₁ _ _ hx
  have hxL : hp.objs.size ≠ e := Nat.ne_of_gt (Heap.lt_size hx)
  have hself' : List.lookup ("self" : Str) ([(("self" : Str), Value.ref e), (fld, v)] : List (Str × Value)).reverse = some (Value.ref e) := by
    show List.lookup ("self" : Str) ([(fld, v), (("self" : Str), Value.ref e)] : List (Str × Value)) = _
    simp [List.lookup, hne]
  have hfld' : List.lookup fld ([(("self" : Str), Value.ref e), (fld, v)] : List (Str × Value)).reverse = some v := by
    show List.lookup fld ([(fld, v), (("self" : Str), Value.ref e)] : List (Str × Value)) = _
    simp [List.lookup]
  show PySem.wpAt (model prog w) (A.deeper (ksEnv qual sc hp.objs.size fI (.ref cda) cc)) (.func _ (ksEnv qual sc hp.objs.size fI (.ref cda) cc)) (execs _ (ksEnv qual sc hp.objs.size fI (.ref cda) cc)) _ _ _
  generalize hA : A.deeper (ksEnv qual sc hp.objs.size fI (.ref cda) cc) = A'
  obtain ⟨mb, hB1, hB2⟩ := hB
  have kGl : ∀ x, sc.names.lookup x = some .globalImplicit → (ksEnv qual sc hp.objs.size fI (.ref cda) cc).kindOf x = some .globalImplicit := fun x h => h
  have hint : interactive (ksEnv qual sc hp.objs.size fI (.ref cda) cc) = false := by
    unfold interactive
    simp [hk]
  have hswap : ∀ (l : Nat) (e : Expr) (env : Env), (match e with | .Call _ _ _ _ => true | _ => false) = true → swapsWith e none l env = pure false := fun l e env h => by cases e <;> first | rfl | cases h
  have heq : eval (.Call (.Attribute (.Call (.Name "super" p0) [] [] p1) "__init__" ap) [.Constant (.str txt) j p2] [] p3) (ksEnv qual sc hp.objs.size fI (.ref cda) cc) = (do
      let ov ← attributeBase (.Call (.Name "super" p0) [] [] p1) "__init__" (ksEnv qual sc hp.objs.size fI (.ref cda) cc) (eval (.Call (.Name "super" p0) [] [] p1) (ksEnv qual sc hp.objs.size fI (.ref cda) cc))
      standAt ap.atName
      let (f, first) ← holding [ov] (getMethod ov "__init__" (do return (← importBound (.Call (.Name "super" p0) [] [] p1) (ksEnv qual sc hp.objs.size fI (.ref cda) cc)).getD true))
      callWith p3 f first (backTo p3 (starEach [.Constant (.str txt) j p2] (ksEnv qual sc hp.objs.size fI (.ref cda) cc))) []) := by
    rw [arm_eval_Call]
    unfold methodCall
    have hf : methodCallForm ([Expr.Constant (.str txt) j p2].length + ([] : List Keyword).length) (backTo p3 (starEach [.Constant (.str txt) j p2] (ksEnv qual sc hp.objs.size fI (.ref cda) cc))) (backToKw p3 (keywordEach [] (ksEnv qual sc hp.objs.size fI (.ref cda) cc))) = true := rfl
    rw [hf]
    unfold calleeOf methodCallPos
    simp only [if_true, hline, Bool.not_true, Bool.false_or]
    rfl
  -- super().__init__(a text)
  refine ks_wpAt_execs_cons (ks_wpAt_Expr_any (ks_wpAt_MethodCall (pl := do return (← importBound (.Call (.Name "super" p0) [] [] p1) (ksEnv qual sc hp.objs.size fI (.ref cda) cc)).getD true) ?_ heq) hint (hswap _ _ _ rfl))
  refine ks_wpAt_super_base hks hkc (by decide +kernel) rfl (X₁ _ _ ho) rfl rfl rfl (X₁ _ _ hcode) rfl hvs hfile T.top ?_
  refine ks_loadName_global hk hks (loadGlobal_builtin (env := ksEnv qual sc hp.objs.size fI (.ref cda) cc) (hG.keeps hk₁) T.nsup (hB1.keeps hk₁) (hB2.trans (by first | boot_by_name | rfl | kernel_rfl)) ⟨rfl, ?_⟩)
  refine wpAny_loadName_free hk hkc rfl ⟨_, X₁ _ _ hcell, rfl⟩ ?_
  refine wpAny_loadName_local hk hself hns hself' ?_
  obtain ⟨oD, hD1, hD2⟩ : ∃ oD, h₁.get? C = some oD ∧ oD.data = .cls { name := nm, bases := bs, mro := .ref C :: bm, ns := N, qualname := q, hasDict := true, slotNames := sn, subclasses := sub, abstract := ab, collection := col, hasDel := false } := ⟨_, X₁ _ _ hC, rfl⟩
  refine ks_wpAny_isType_cls hD1 hD2 ⟨rfl, ?_⟩
  refine ks_wpAny_call_super hD1 hD2 hx₁ rfl (fun c z => by cases z) (looks_mroIn X₁ T.own) (fun h₂ e₂ k₂ => ?_)
  have X₂ : K.In h₂ := X₁.keeps k₂
  have hC₂ := X₂ _ _ hC
  have hx₂ := k₂ _ _ hx₁
  have I₂ : InstAt h₂ e (excO C t0) C none := ⟨hx₂, rfl, rfl, trivial⟩
  have hsup := T.sup
  unfold ks_superIn at hsup
  rw [hcl, Option.bind_some] at hsup
  have hxC : e ≠ C := ks_ne X₂ I₂ hcl
  refine kxs_getMethod kxs_ValueError e₂ (looks_opaque X₂ T.tp) (l₀ := .ref C :: bm) (fun A Q E s k q => wpAny_bind ((looks_clsIn X₂ hcl) A _ E s k (wpAny_pure q))) rfl X₂ hsup (I₂.type.andThen (looks_subIn X₂ T.ve)) hxC (by decide +kernel) ?_
  generalize hu : h₂.objs.size = u
  have hget3 : (h₂.push (kxs_mw "ValueError.__init__" e)).get? u = some (kxs_mw "ValueError.__init__" e) := by rw [← hu]; exact Heap.get?_push_at rfl rfl
  have k₃ : ∀ b o, h₂.get? b = some o → (h₂.push (kxs_mw "ValueError.__init__" e)).get? b = some o := fun b o z => Heap.get?_push_of_some _ z
  generalize hh₃ : h₂.push (kxs_mw "ValueError.__init__" e) = h₃ at *
  refine kxs_callWith (i := "ValueError.__init__") (x := e) rfl (evalArgs_plain (spliced_more (Calls.Constant_str (spliced_none ⟨hget3, ?_⟩))))
  refine vw_call (hC := k₃ _ _ hC₂) (k₃ _ _ hx₂) hget3 (one_size _) (fun h₄ t1 k₄ hx₄ => ?_)
  -- self.f = f
  have hes : u ≠ e := fun z => by
    have y := Heap.lt_size hx₂
    rw [hu] at y
    rw [z] at y
    exact absurd y (Nat.lt_irrefl _)
  have keep : ∀ b o, b ≠ e → hp.get? b = some o → h₄.get? b = some o := fun b o hb z => k₄ _ _ hb (k₃ _ _ (k₂ _ _ (hk₁ _ _ z)))
  have X₄ : K.In h₄ := fun b o z => keep b o (fun y => by rw [y, hnx] at z; cases z) (X b o z)
  have hns₄ : h₄.Ns hp.objs.size (fun y => List.lookup y ([(("self" : Str), Value.ref e), (fld, v)] : List (Str × Value)).reverse) := by
    obtain ⟨oL, es, ep, hL, r⟩ := hns
    exact ⟨oL, es, ep, k₄ _ _ hxL (k₃ _ _ (k₂ _ _ hL)), r⟩
  show PySem.wpAt _ _ _ (execs _ _) _ _ _
  refine ks_wpAt_execs_cons (wpAt_of_wpAny (plainObj_wpAny_Assign_Attribute ?_ (by rfl)))
  refine wpAny_Name (wpAny_loadName_local hk hfld hns₄ hfld' ?_) hdb
  refine wpAny_Name (wpAny_loadName_local hk hself hns₄ hself' ?_) (by decide)
  refine set_plain X₄ (ox := excO C t1) (od := none) ⟨hx₄, rfl, rfl, trivial⟩ T.sa ?_
  refine exc_osa X₄ hx₄ hcl (show refsVE (.ref C :: bm) = true from hbm) rfl T.noN (fun h₅ tk₅ dx k₅ dn dne hx₅ hn₅ => ?_)
  refine wpAt_of_wpAny (wpAny_execs_nil (hq h₅ tk₅ dx t1 ⟨fun b o hb z => k₅ b o hb (keep b o hb z), hx₅, Nat.le_of_lt (Nat.lt_of_lt_of_le hns₄.lt dn), dne, hn₅⟩))
/-- a made exception -/
structure OwnMade (fld : Str) (h h' : Heap) (e C d : Addr) (v : Value) : Prop where
  keep : ∀ b o, h.get? b = some o → h'.get? b = some o
  new : h.objs.size ≤ e
  obj : ∃ oe vs, h'.get? e = some oe ∧ oe.cls = .ref C ∧ oe.dict = some d ∧ oe.data = .fields vs ∧ vs[1]? = some .none
  dbig : h.objs.size ≤ d
  dne : d ≠ e
  ns : h'.Ns1 d (fun y => if y = fld then some v else none)
theorem sup_made (T : SupTxt prog K mg x fld C fI) {v : Value} (X : K.In s.heap) (hlim : s.heap.NoLimit) (hG : s.heap.Ns mainGlobals mg) (hB : ∃ mb, s.heap.Ns builtinsNs mb ∧ mb "super" = bootBuiltins "super") (hroom : A.depth + 1 < recursionLimit)
    (hq : ∀ h' tk e d, OwnMade fld s.heap h' e C d v → R (.ok (.ret (.ref e))) { s with heap := h', toks := tk }) :
    codeAny (model prog w) A (.call (.ref C) ⟨[v], []⟩) R s := by
  obtain ⟨nm, q, N, bs, bm, sn, sub, ab, col, dd, k0, k1, k2, k3, k5, hC, hbm⟩ := T.cls
  obtain ⟨hp, g, dr, tk, os⟩ := s
  have k : ∀ b o, hp.get? b = some o → ((hp.push (kdv_tup [v])).push (excO C hp.objs.size)).get? b = some o := fun b o e => Heap.get?_push_of_some _ (Heap.get?_push_of_some _ e)
  have hget : ((hp.push (kdv_tup [v])).push (excO C hp.objs.size)).get? (hp.objs.size + 1) = some (excO C hp.objs.size) := by heap_get
  have hnx : K.lookup (hp.objs.size + 1) = none := by
    cases e : K.lookup (hp.objs.size + 1) with
    | none => rfl
    | some o =>
      have z : hp.get? (hp.objs.size + 1) = some o := X _ _ e
      exact absurd (Nat.lt_of_succ_lt (Heap.lt_size z)) (Nat.lt_irrefl _)
  obtain ⟨mb, hB1, hB2⟩ := hB
  refine call_own F.excBase_ValueError (fun X => refsVE_contains X bm hbm) (X _ _ hC) (looks_findIn X T.iC) (fun self => bind_fn X self T.tC) (one_size v) ?_
  refine sup_init (s := ⟨(hp.push (kdv_tup [v])).push (excO C hp.objs.size), g, dr, tk, os⟩) T (X.keeps k) (hlim.keeps k) (hG.keeps k) ⟨mb, hB1.keeps k, hB2⟩ hget hnx ?_ fun h' tk' dx t1 ⟨k', hx, dn, dne, hns⟩ => ?_
  · show A.depth + 1 < recursionLimit
    exact hroom
  · have old : ∀ b o, hp.get? b = some o → h'.get? b = some o := fun b o e => k' b o (Nat.ne_of_lt (Nat.lt_succ_of_lt (Heap.lt_size e))) (k b o e)
    have z : hp.objs.size + 1 + 1 ≤ dx := by
      first
        | (simpa only [Heap.size_push] using dn)
        | exact dn
        | (have q := dn; rw [Heap.size_push, Heap.size_push] at q; exact q)
    exact ⟨rfl, hq h' tk' (hp.objs.size + 1) dx ⟨old, Nat.le_succ _, ⟨_, _, hx, rfl, rfl, rfl, rfl⟩, Nat.le_trans (Nat.le_trans (Nat.le_succ _) (Nat.le_succ _)) z, dne, hns⟩⟩
end
end FxS
namespace Fx
open PySem PySem.Spec PyProof.Rows L2
theorem relO_one {fld : Str} {v : V} {v' : Value} (r : L2.RelV v v') (f : Str) : L2.RelO (List.lookup f [(fld, v)]) (if f = fld then some v' else none) := by
  by_cases hw : f = fld
  · subst hw
    rw [if_pos rfl]
    have q : List.lookup f [(f, v)] = some v := by simp [List.lookup]
    rw [q]
    exact r
  · rw [if_neg hw]
    have qw : (f == fld) = false := by simpa using hw
    have q2 : List.lookup f [(fld, v)] = none := by simp [List.lookup, qw]
    rw [q2]
    trivial
theorem pmk_sup {X : Cx} {x fld : Str} {C fI : Addr} {a : Expr} {es : List Expr} {ta : TA} {p pos : Pos} {k : Nat} (T : FxS.SupTxt X.prog X.K X.mg x fld C fI) (hr : Room k X.A) (ha : PA X (a :: es) ta) (hg : Gl X x) (hdb : (x == ("__debug__" : Str)) = false)
    (he : starEach (a :: es) X.env = (false, PySem.eval a X.env) :: starEach es X.env) (hpl : (backTo pos (starEach es X.env)).any (·.1) = false) :
    PMk X (.Call (.Name x p) (a :: es) [] pos) (tMkF C [fld] ta) := by
  intro pins s σ H Q I h
  refine wpAny_Call_Name_kw (ld_glob I hg T.gC ?_ hdb)
  refine PySem.W.callWith_K (h₀ := X.base) I.ok.mod.kin T.kC (thn (ha.run pos pins s σ H _ I h) fun us s1 hh => ?_) he hpl
  obtain ⟨vs, H1, I1, r1, hl, _, q1⟩ := hh
  obtain ⟨v, rfl⟩ : ∃ v, vs = [v] := by
    match vs, hl with
    | [v], _ => exact ⟨v, rfl⟩
    | [], z => cases z
    | _ :: _ :: _, z => simp at z
  refine ⟨I1.kIn, ?_⟩
  cases r1 with
  | cons rv rn =>
    rename_i v' us'
    cases rn
    show wpAny _ _ (call (.ref C) [v']) _ _ _
    have hlim := I1.nolimit
    have hG : s1.heap.Ns mainGlobals X.mg := I1.mod.glob.keeps I1.bk
    have hB : ∃ mb, s1.heap.Ns builtinsNs mb ∧ mb "super" = bootBuiltins "super" := by
      obtain ⟨mb, h1, h2⟩ := I1.mod.blt
      exact ⟨mb, h1.keeps I1.bk, h2 _ (by decide)⟩
    obtain ⟨hp, g, dr, tk, os⟩ := s1
    refine wpAny_call (FxS.sup_made T I1.kIn hlim hG hB (by have := hr.dp; omega) fun h' tk' e d M => ?_)
    show MkP X pins σ Q (.ref e) ⟨h', g, dr, tk', os⟩
    obtain ⟨oe, fv, hoe, hc, hd, hdat, h1⟩ := M.obj
    have hns := M.ns
    obtain ⟨G', g1, g2⟩ := restrict h' fun b => decide (b ≠ e)
    have gk : ∀ b, b ≠ e → G'.get? b = h'.get? b := fun b hb => g1 b (decide_eq_true hb)
    have ge : G'.get? e = none := g2 e (by simp)
    have old : ∀ b o, hp.get? b = some o → G'.get? b = some o := fun b o q => (gk b (Nat.ne_of_lt (Nat.lt_of_lt_of_le (Heap.lt_size q) M.new))).trans (M.keep b o q)
    have ob : ObjOk X.prog X.w (upd H1 d (.xd [(fld, v)])) G' d (.xd [(fld, v)]) :=
      ⟨_, hns.at (fun o q => (gk d M.dne).trans q), fun f => relO_one rv f⟩
    have J : L2.Inv X pins σ (upd H1 d (.xd [(fld, v)])) ⟨G', g, dr, tk', os⟩ := I1.laid (t' := tk') old M.dbig ob
    refine ⟨e, oe, fv, ⟨G', g, dr, tk', os⟩, _, .ref C, some d, rfl, J, fun b o q => ?_, ge, hoe, ⟨hc, hd⟩, hdat, h1, ?_, rfl, I1.bare, raises_own T.exC T.tyC, q1 d (I1.hok.fresh M.dbig)⟩
    · by_cases hb : b = e
      · have q' : G'.get? b = some o := q
        rw [hb, ge] at q'; cases q'
      · exact (gk b hb).symm.trans q
    · rw [upd_ne (Ne.symm M.dne)]
      exact I1.hok.fresh M.new
theorem need_rse {g : Tab} {P : Program} {w : World} {K : PySem.W.Frag} {mg : Str → Option Value} {base : Heap} {k : Nat} {x fld : Str} {C : Nat} {fI : Addr} (T : FxS.SupTxt P K mg x fld (g.xa C) fI) (hf : g.xf C = [fld]) (hdb : (x == ("__debug__" : Str)) = false) : NeedP g P w K mg base k (.rse x C 1) := by
  intro X h1 h2 h3 h4 h5
  subst h1 h2 h3 h4 h5
  refine ⟨by rw [hf]; rfl, by decide, by decide, fun X' e1 e2 e3 e4 e5 hr hc e es t p pos ha hs hg => ?_⟩
  have T' : FxS.SupTxt X'.prog X'.K X'.mg x fld (g.xa C) fI := by rw [e1, e3, e4]; exact T
  have hs' : nStar e = true ∧ nStars es = true := by simpa [nStars] using hs
  rw [hf]
  exact pmk_sup T' hr ha hg hdb (star_cons hs'.1) (back_any hs'.2)
end Fx

/-! Own errors that keep two arguments. -/
namespace FxS
open PySem PySem.W PySem.Calls PyProof.Rows PySem.HandSPX
theorem two_size (v z : Value) : [v, z].length ≤ sizeLine := by
  rw [sizeLine_eq]
  exact (by decide : 2 ≤ 16777216)
/-- what the written part says of the class x at C, of its __init__, at fI -/
structure SupTxt2 (prog : Program) (K : Frag) (mg : Str → Option Value) (x fld fl2 : Str) (C fI : Addr) : Prop where
  gC : mg x = some (.ref C)
  cls : ∃ nm q N bs bm sn sub ab col dd k0 k1 k2 k3 k5, K.lookup C = some (excClassObj nm q C N bs bm true sn sub ab col dd k0 k1 k2 k3 k5 "ValueError.__new__") ∧ refsVE bm = true
  sa : findIn K (.ref C) "__setattr__" = some (some (.builtin "object.__setattr__"))
  noN : findIn K (.ref C) fld = some none
  noM : findIn K (.ref C) fl2 = some none
  iC : findIn K (.ref C) "__init__" = some (some (.ref fI))
  tC : typeIn K (.ref fI) = some (.type "function")
  kC : keepIn K (.ref C) = true
  exC : subIn K (.ref C) (.type "BaseException") = some true
  tyC : typeIn K (.ref C) = some (.type "type")
  ve : subIn K (.ref C) (.type "ValueError") = some true
  sup : ks_superIn K C C "__init__" = some (some (.builtin "ValueError.__init__"))
  tp : nsIn K cStatics "thirdparty.any" = some none
  own : mroIn K C (.ref C) = some true
  nsup : mg "super" = none
  fn : ∃ (st : Stmt) (oc : Value) (od : Option Addr) (doc pm kV : Value) (an : Option Addr) (cda cc : Addr) (ct : Value) (osl : Array (Option Value)) (ccl : Value) (cdd : Option Addr) (vs : Array Value) (ccs : Array (Option Value)) (file : Str) (tf : Tok) (cl : Value) (cld : Option Addr) (csl : Array (Option Value)) (qual txt : Str) (j : Nat)
      (p0 p1 p2 p3 p4 p5 p6 p7 p8 ap a1 a2 q5 q6 q7 q8 a3 : Pos),
    K.lookup fI = some ⟨oc, od, .func (ksFn "__init__" qual (L2.defArgs st) (L2.defBody st) (L2.defScope st) .none kV doc pm an (.ref cda) ct cc), osl⟩ ∧ codeIn K (.ref cda) qual = true ∧
    K.lookup cda = some ⟨ccl, cdd, .fields vs, ccs⟩ ∧ vs[2]? = some (.str file tf) ∧ ((prog.main.file : Str) == file) = true ∧ K.lookup cc = some ⟨cl, cld, .cell (some (.ref C)), csl⟩ ∧
    L2.defArgs st = { posonlyargs := [], args := [{ arg := "self", annotation := none, pos := a1 }, { arg := fld, annotation := none, pos := a2 }, { arg := fl2, annotation := none, pos := a3 }], vararg := none, kwonlyargs := [], kw_defaults := [], kwarg := none, defaults := [] } ∧
    L2.defBody st = [.Expr (.Call (.Attribute (.Call (.Name "super" p0) [] [] p1) "__init__" ap) [.Constant (.str txt) j p2] [] p3) p4, .Assign [.Attribute (.Name "self" p5) fld p6] (.Name fld p7) p8, .Assign [.Attribute (.Name "self" q5) fl2 q6] (.Name fl2 q7) q8] ∧ (ap.endLine == p3.line) = true ∧
    (L2.defScope st).kind = .function ∧ (L2.defScope st).isCoroutine = false ∧ (L2.defScope st).isGenerator = false ∧ (∀ x ∈ (L2.defScope st).names, x.2 ≠ .cell) ∧ (L2.defScope st).names.lookup ("self" : Str) = some .local ∧ (L2.defScope st).names.lookup fld = some .local ∧ (L2.defScope st).names.lookup fl2 = some .local ∧
    (L2.defScope st).names.lookup ("super" : Str) = some .globalImplicit ∧ (L2.defScope st).names.lookup ("__class__" : Str) = some .free ∧ (fld == ("__debug__" : Str)) = false ∧ (fl2 == ("__debug__" : Str)) = false ∧ (("self" : Str) == fld) = false ∧ (("self" : Str) == fl2) = false ∧ (fld == fl2) = false ∧
    (∀ u v z : Value, bindArgs (ksFn "__init__" qual (L2.defArgs st) (L2.defBody st) (L2.defScope st) .none kV doc pm an (.ref cda) ct cc) ⟨[u, v, z], []⟩ = pure [(("self" : Str), u), (fld, v), (fl2, z)])
  top : (prog.main.scope.names.lookup ("super" : Str)).isSome = false
/-- what __init__ leaves of a fresh exception at x -/
structure InitEnd2 (fld fl2 : Str) (h h' : Heap) (x C dx t1 : Addr) (v z : Value) : Prop where
  keep : ∀ b o, b ≠ x → h.get? b = some o → h'.get? b = some o
  obj : h'.get? x = some { cls := .ref C, dict := some dx, data := .fields #[.ref t1, .none, .none, .none, .bool false, .none] }
  dbig : h.objs.size ≤ dx
  dne : dx ≠ x
  ns : h'.Ns1 dx (fun y => if y = fl2 then some z else if y = fld then some v else none)
section
variable {prog : Program} {w : World} {A : Around} {E : Value → Shared → Prop} {R : Result → Shared → Prop} {s : Shared} {K : Frag} {mg : Str → Option Value} {C fI : Addr} {x fld fl2 : Str}
theorem sup_init2 (T : SupTxt2 prog K mg x fld fl2 C fI) {e t0 : Addr} {v z : Value} (X : K.In s.heap) (hlim : s.heap.NoLimit) (hG : s.heap.Ns mainGlobals mg) (hB : ∃ mb, s.heap.Ns builtinsNs mb ∧ mb "super" = bootBuiltins "super") (hx : s.heap.get? e = some (excO C t0)) (hnx : K.lookup e = none) (hroom : A.depth < recursionLimit)
    (hq : ∀ h' tk dx t1, InitEnd2 fld fl2 s.heap h' e C dx t1 v z → R (.ok (.ret .none)) { s with heap := h', toks := tk }) :
    codeAny (model prog w) A (.call (.ref fI) ⟨[.ref e, v, z], []⟩) R s := by
  obtain ⟨st, oc, od, doc, pm, kV, an, cda, cc, ct, osl, ccl, cdd, vs, ccs, file, tf, cl, cld, csl, qual, txt, j, p0, p1, p2, p3, p4, p5, p6, p7, p8, ap, a1, a2, q5, q6, q7, q8, a3, ho, hcd, hcode, hvs, hfile, hcell, hargs, hbody, hline, hk, hco, hgen, hnc, hself, hfld, hfl2, hks, hkc, hdb, hdb2, hne, hne2, hne3, hbind⟩ := T.fn
  obtain ⟨nm, q, N, bs, bm, sn, sub, ab, col, dd, k0, k1, k2, k3, k5, hC, hbm⟩ := T.cls
  have hcl : clsIn K C = some { name := nm, bases := bs, mro := .ref C :: bm, ns := N, qualname := q, hasDict := true, slotNames := sn, subclasses := sub, abstract := ab, collection := col, hasDel := false } := by unfold clsIn; rw [hC] <;> rfl
  rw [hargs, hbody] at ho hbind
  generalize hsc : L2.defScope st = sc at *
  refine ks_codeAny_call_defAt (binds := [("self", .ref e), (fld, v), (fl2, z)]) hroom (X _ _ ho) rfl hlim (codeRec_of X hcd) rfl (BindsTo.of_eq (hbind _ _ _)) hnc (fun y hy => ?_) (fun h₁ hns hk₁ => ?_) hco hgen hk
  · rcases List.mem_cons.mp hy with rfl | hy
    · exact hself
    · rcases List.mem_cons.mp hy with rfl | hy
      · exact hfld
      · rcases List.mem_cons.mp hy with rfl | hy
        · exact hfl2
        · cases hy
  obtain ⟨hp, g, dr, tk, os⟩ := s
  have X₁ : K.In h₁ := X.keeps hk₁
  have hx₁ := hk₁ _ _ hx
  have hxL : hp.objs.size ≠ e := Nat.ne_of_gt (Heap.lt_size hx)
  have hself' : List.lookup ("self" : Str) ([(("self" : Str), Value.ref e), (fld, v), (fl2, z)] : List (Str × Value)).reverse = some (Value.ref e) := by
    show List.lookup ("self" : Str) ([(fl2, z), (fld, v), (("self" : Str), Value.ref e)] : List (Str × Value)) = _
    simp [List.lookup, hne, hne2]
  have hfld' : List.lookup fld ([(("self" : Str), Value.ref e), (fld, v), (fl2, z)] : List (Str × Value)).reverse = some v := by
    show List.lookup fld ([(fl2, z), (fld, v), (("self" : Str), Value.ref e)] : List (Str × Value)) = _
    simp [List.lookup, hne3]
  have hfl2' : List.lookup fl2 ([(("self" : Str), Value.ref e), (fld, v), (fl2, z)] : List (Str × Value)).reverse = some z := by
    show List.lookup fl2 ([(fl2, z), (fld, v), (("self" : Str), Value.ref e)] : List (Str × Value)) = _
    simp [List.lookup]
  show PySem.wpAt (model prog w) (A.deeper (ksEnv qual sc hp.objs.size fI (.ref cda) cc)) (.func _ (ksEnv qual sc hp.objs.size fI (.ref cda) cc)) (execs _ (ksEnv qual sc hp.objs.size fI (.ref cda) cc)) _ _ _
  generalize hA : A.deeper (ksEnv qual sc hp.objs.size fI (.ref cda) cc) = A'
  obtain ⟨mb, hB1, hB2⟩ := hB
  have kGl : ∀ x, sc.names.lookup x = some .globalImplicit → (ksEnv qual sc hp.objs.size fI (.ref cda) cc).kindOf x = some .globalImplicit := fun x h => h
  have hint : interactive (ksEnv qual sc hp.objs.size fI (.ref cda) cc) = false := by
    unfold interactive
    simp [hk]
  have hswap : ∀ (l : Nat) (e : Expr) (env : Env), (match e with | .Call _ _ _ _ => true | _ => false) = true → swapsWith e none l env = pure false := fun l e env h => by cases e <;> first | rfl | cases h
  have heq : eval (.Call (.Attribute (.Call (.Name "super" p0) [] [] p1) "__init__" ap) [.Constant (.str txt) j p2] [] p3) (ksEnv qual sc hp.objs.size fI (.ref cda) cc) = (do
      let ov ← attributeBase (.Call (.Name "super" p0) [] [] p1) "__init__" (ksEnv qual sc hp.objs.size fI (.ref cda) cc) (eval (.Call (.Name "super" p0) [] [] p1) (ksEnv qual sc hp.objs.size fI (.ref cda) cc))
      standAt ap.atName
      let (f, first) ← holding [ov] (getMethod ov "__init__" (do return (← importBound (.Call (.Name "super" p0) [] [] p1) (ksEnv qual sc hp.objs.size fI (.ref cda) cc)).getD true))
      callWith p3 f first (backTo p3 (starEach [.Constant (.str txt) j p2] (ksEnv qual sc hp.objs.size fI (.ref cda) cc))) []) := by
    rw [arm_eval_Call]
    unfold methodCall
    have hf : methodCallForm ([Expr.Constant (.str txt) j p2].length + ([] : List Keyword).length) (backTo p3 (starEach [.Constant (.str txt) j p2] (ksEnv qual sc hp.objs.size fI (.ref cda) cc))) (backToKw p3 (keywordEach [] (ksEnv qual sc hp.objs.size fI (.ref cda) cc))) = true := rfl
    rw [hf]
    unfold calleeOf methodCallPos
    simp only [if_true, hline, Bool.not_true, Bool.false_or]
    rfl
  -- super().__init__(a text)
  refine ks_wpAt_execs_cons (ks_wpAt_Expr_any (ks_wpAt_MethodCall (pl := do return (← importBound (.Call (.Name "super" p0) [] [] p1) (ksEnv qual sc hp.objs.size fI (.ref cda) cc)).getD true) ?_ heq) hint (hswap _ _ _ rfl))
  refine ks_wpAt_super_base hks hkc (by decide +kernel) rfl (X₁ _ _ ho) rfl rfl rfl (X₁ _ _ hcode) rfl hvs hfile T.top ?_
  refine ks_loadName_global hk hks (loadGlobal_builtin (env := ksEnv qual sc hp.objs.size fI (.ref cda) cc) (hG.keeps hk₁) T.nsup (hB1.keeps hk₁) (hB2.trans (by first | boot_by_name | rfl | kernel_rfl)) ⟨rfl, ?_⟩)
  refine wpAny_loadName_free hk hkc rfl ⟨_, X₁ _ _ hcell, rfl⟩ ?_
  refine wpAny_loadName_local hk hself hns hself' ?_
  obtain ⟨oD, hD1, hD2⟩ : ∃ oD, h₁.get? C = some oD ∧ oD.data = .cls { name := nm, bases := bs, mro := .ref C :: bm, ns := N, qualname := q, hasDict := true, slotNames := sn, subclasses := sub, abstract := ab, collection := col, hasDel := false } := ⟨_, X₁ _ _ hC, rfl⟩
  refine ks_wpAny_isType_cls hD1 hD2 ⟨rfl, ?_⟩
  refine ks_wpAny_call_super hD1 hD2 hx₁ rfl (fun c z => by cases z) (looks_mroIn X₁ T.own) (fun h₂ e₂ k₂ => ?_)
  have X₂ : K.In h₂ := X₁.keeps k₂
  have hC₂ := X₂ _ _ hC
  have hx₂ := k₂ _ _ hx₁
  have I₂ : InstAt h₂ e (excO C t0) C none := ⟨hx₂, rfl, rfl, trivial⟩
  have hsup := T.sup
  unfold ks_superIn at hsup
  rw [hcl, Option.bind_some] at hsup
  have hxC : e ≠ C := ks_ne X₂ I₂ hcl
  refine kxs_getMethod kxs_ValueError e₂ (looks_opaque X₂ T.tp) (l₀ := .ref C :: bm) (fun A Q E s k q => wpAny_bind ((looks_clsIn X₂ hcl) A _ E s k (wpAny_pure q))) rfl X₂ hsup (I₂.type.andThen (looks_subIn X₂ T.ve)) hxC (by decide +kernel) ?_
  generalize hu : h₂.objs.size = u
  have hget3 : (h₂.push (kxs_mw "ValueError.__init__" e)).get? u = some (kxs_mw "ValueError.__init__" e) := by rw [← hu]; exact Heap.get?_push_at rfl rfl
  have k₃ : ∀ b o, h₂.get? b = some o → (h₂.push (kxs_mw "ValueError.__init__" e)).get? b = some o := fun b o z => Heap.get?_push_of_some _ z
  generalize hh₃ : h₂.push (kxs_mw "ValueError.__init__" e) = h₃ at *
  refine kxs_callWith (i := "ValueError.__init__") (x := e) rfl (evalArgs_plain (spliced_more (Calls.Constant_str (spliced_none ⟨hget3, ?_⟩))))
  refine vw_call (hC := k₃ _ _ hC₂) (k₃ _ _ hx₂) hget3 (one_size _) (fun h₄ t1 k₄ hx₄ => ?_)
  -- self.f = f
  have hes : u ≠ e := fun z => by
    have y := Heap.lt_size hx₂
    rw [hu] at y
    rw [z] at y
    exact absurd y (Nat.lt_irrefl _)
  have keep : ∀ b o, b ≠ e → hp.get? b = some o → h₄.get? b = some o := fun b o hb z => k₄ _ _ hb (k₃ _ _ (k₂ _ _ (hk₁ _ _ z)))
  have X₄ : K.In h₄ := fun b o z => keep b o (fun y => by rw [y, hnx] at z; cases z) (X b o z)
  have hns₄ : h₄.Ns hp.objs.size (fun y => List.lookup y ([(("self" : Str), Value.ref e), (fld, v), (fl2, z)] : List (Str × Value)).reverse) := by
    obtain ⟨oL, es, ep, hL, r⟩ := hns
    exact ⟨oL, es, ep, k₄ _ _ hxL (k₃ _ _ (k₂ _ _ hL)), r⟩
  show PySem.wpAt _ _ _ (execs _ _) _ _ _
  refine ks_wpAt_execs_cons (wpAt_of_wpAny (plainObj_wpAny_Assign_Attribute ?_ (by rfl)))
  refine wpAny_Name (wpAny_loadName_local hk hfld hns₄ hfld' ?_) hdb
  refine wpAny_Name (wpAny_loadName_local hk hself hns₄ hself' ?_) (by decide)
  refine set_plain X₄ (ox := excO C t1) (od := none) ⟨hx₄, rfl, rfl, trivial⟩ T.sa ?_
  refine exc_osa X₄ hx₄ hcl (show refsVE (.ref C :: bm) = true from hbm) rfl T.noN (fun h₅ tk₅ dx k₅ dn dne hx₅ hn₅ => ?_)
  have X₅ : K.In h₅ := fun b o z => k₅ b o (fun y => by rw [y, hnx] at z; cases z) (X₄ b o z)
  have hL₄ : hp.objs.size < h₄.objs.size := hns₄.lt
  have hns₅ : h₅.Ns hp.objs.size (fun y => List.lookup y ([(("self" : Str), Value.ref e), (fld, v), (fl2, z)] : List (Str × Value)).reverse) := by
    obtain ⟨oL, es, ep, hL, r⟩ := hns₄
    exact ⟨oL, es, ep, k₅ _ _ hxL hL, r⟩
  show PySem.wpAt _ _ _ (execs _ _) _ _ _
  refine ks_wpAt_execs_cons (wpAt_of_wpAny (plainObj_wpAny_Assign_Attribute ?_ (by rfl)))
  refine wpAny_Name (wpAny_loadName_local hk hfl2 hns₅ hfl2' ?_) hdb2
  refine wpAny_Name (wpAny_loadName_local hk hself hns₅ hself' ?_) (by decide)
  obtain ⟨oD, esD, epD, hoD, _⟩ := hn₅
  refine set_plain X₅ (ox := { cls := .ref C, dict := some dx, data := .fields #[.ref t1, .none, .none, .none, .bool false, .none] }) (od := some oD) ⟨hx₅, rfl, rfl, hoD⟩ T.sa ?_
  have hn₅' : h₅.Ns1 dx (fun y => if y = fld then some v else none) := ⟨oD, esD, epD, hoD, ‹_›⟩
  refine PySem.OEX.osa_old X₅ hx₅ hn₅' (nl := [fld]) (fun y hy => ?_) (by simp) hcl (show refsVE (.ref C :: bm) = true from hbm) rfl T.noM (fun h₆ tk₆ k₆ hn₆ => ?_)
  · by_cases hyf : y = fld
    · rw [hyf]; simp
    · exact absurd (if_neg hyf) hy
  · have dne₂ : e ≠ dx := fun y => dne y.symm
    refine wpAt_of_wpAny (wpAny_execs_nil (hq h₆ tk₆ dx t1 ⟨fun b o hb z => ?_, k₆ _ _ dne₂ hx₅, Nat.le_of_lt (Nat.lt_of_lt_of_le hns₄.lt dn), dne, hn₆⟩))
    have q := keep b o hb z
    have hlt : b < h₄.objs.size := Heap.lt_size q
    exact k₆ b o (Nat.ne_of_lt (Nat.lt_of_lt_of_le hlt dn)) (k₅ b o hb q)
/-- a made exception -/
structure OwnMade2 (fld fl2 : Str) (h h' : Heap) (e C d : Addr) (v z : Value) : Prop where
  keep : ∀ b o, h.get? b = some o → h'.get? b = some o
  new : h.objs.size ≤ e
  obj : ∃ oe vs, h'.get? e = some oe ∧ oe.cls = .ref C ∧ oe.dict = some d ∧ oe.data = .fields vs ∧ vs[1]? = some .none
  dbig : h.objs.size ≤ d
  dne : d ≠ e
  ns : h'.Ns1 d (fun y => if y = fl2 then some z else if y = fld then some v else none)
theorem sup_made2 (T : SupTxt2 prog K mg x fld fl2 C fI) {v z : Value} (X : K.In s.heap) (hlim : s.heap.NoLimit) (hG : s.heap.Ns mainGlobals mg) (hB : ∃ mb, s.heap.Ns builtinsNs mb ∧ mb "super" = bootBuiltins "super") (hroom : A.depth + 1 < recursionLimit)
    (hq : ∀ h' tk e d, OwnMade2 fld fl2 s.heap h' e C d v z → R (.ok (.ret (.ref e))) { s with heap := h', toks := tk }) :
    codeAny (model prog w) A (.call (.ref C) ⟨[v, z], []⟩) R s := by
  obtain ⟨nm, q, N, bs, bm, sn, sub, ab, col, dd, k0, k1, k2, k3, k5, hC, hbm⟩ := T.cls
  obtain ⟨hp, g, dr, tk, os⟩ := s
  have k : ∀ b o, hp.get? b = some o → ((hp.push (kdv_tup [v, z])).push (excO C hp.objs.size)).get? b = some o := fun b o e => Heap.get?_push_of_some _ (Heap.get?_push_of_some _ e)
  have hget : ((hp.push (kdv_tup [v, z])).push (excO C hp.objs.size)).get? (hp.objs.size + 1) = some (excO C hp.objs.size) := by heap_get
  have hnx : K.lookup (hp.objs.size + 1) = none := by
    cases e : K.lookup (hp.objs.size + 1) with
    | none => rfl
    | some o =>
      have z : hp.get? (hp.objs.size + 1) = some o := X _ _ e
      exact absurd (Nat.lt_of_succ_lt (Heap.lt_size z)) (Nat.lt_irrefl _)
  obtain ⟨mb, hB1, hB2⟩ := hB
  refine call_own F.excBase_ValueError (fun X => refsVE_contains X bm hbm) (X _ _ hC) (looks_findIn X T.iC) (fun self => bind_fn X self T.tC) (two_size v z) ?_
  refine sup_init2 (s := ⟨(hp.push (kdv_tup [v, z])).push (excO C hp.objs.size), g, dr, tk, os⟩) T (X.keeps k) (hlim.keeps k) (hG.keeps k) ⟨mb, hB1.keeps k, hB2⟩ hget hnx ?_ fun h' tk' dx t1 ⟨k', hx, dn, dne, hns⟩ => ?_
  · show A.depth + 1 < recursionLimit
    exact hroom
  · have old : ∀ b o, hp.get? b = some o → h'.get? b = some o := fun b o e => k' b o (Nat.ne_of_lt (Nat.lt_succ_of_lt (Heap.lt_size e))) (k b o e)
    have z : hp.objs.size + 1 + 1 ≤ dx := by
      first
        | (simpa only [Heap.size_push] using dn)
        | exact dn
        | (have q := dn; rw [Heap.size_push, Heap.size_push] at q; exact q)
    exact ⟨rfl, hq h' tk' (hp.objs.size + 1) dx ⟨old, Nat.le_succ _, ⟨_, _, hx, rfl, rfl, rfl, rfl⟩, Nat.le_trans (Nat.le_trans (Nat.le_succ _) (Nat.le_succ _)) z, dne, hns⟩⟩
end
end FxS
namespace Fx
open PySem PySem.Spec PyProof.Rows L2
theorem relO_two {fld fl2 : Str} {v z : V} {v' z' : Value} (hne : (fld == fl2) = false) (r : L2.RelV v v') (t : L2.RelV z z') (f : Str) : L2.RelO (List.lookup f [(fld, v), (fl2, z)]) (if f = fl2 then some z' else if f = fld then some v' else none) := by
  by_cases h1 : f = fld
  · subst h1
    have h2 : ¬ f = fl2 := by simpa using hne
    rw [if_neg h2, if_pos rfl]
    have q : List.lookup f [(f, v), (fl2, z)] = some v := by simp [List.lookup]
    rw [q]
    exact r
  · have q1 : (f == fld) = false := by simpa using h1
    by_cases h2 : f = fl2
    · subst h2
      rw [if_pos rfl]
      have q : List.lookup f [(fld, v), (f, z)] = some z := by simp [List.lookup, q1]
      rw [q]
      exact t
    · rw [if_neg h2, if_neg h1]
      have q2 : (f == fl2) = false := by simpa using h2
      have q : List.lookup f [(fld, v), (fl2, z)] = none := by simp [List.lookup, q1, q2]
      rw [q]
      trivial
theorem pmk_sup2 {X : Cx} {x fld fl2 : Str} {C fI : Addr} {a : Expr} {es : List Expr} {ta : TA} {p pos : Pos} {k : Nat} (T : FxS.SupTxt2 X.prog X.K X.mg x fld fl2 C fI) (h12 : (fld == fl2) = false) (hr : Room k X.A) (ha : PA X (a :: es) ta) (hg : Gl X x) (hdb : (x == ("__debug__" : Str)) = false)
    (he : starEach (a :: es) X.env = (false, PySem.eval a X.env) :: starEach es X.env) (hpl : (backTo pos (starEach es X.env)).any (·.1) = false) :
    PMk X (.Call (.Name x p) (a :: es) [] pos) (tMkF C [fld, fl2] ta) := by
  intro pins s σ H Q I h
  refine wpAny_Call_Name_kw (ld_glob I hg T.gC ?_ hdb)
  refine PySem.W.callWith_K (h₀ := X.base) I.ok.mod.kin T.kC (thn (ha.run pos pins s σ H _ I h) fun us s1 hh => ?_) he hpl
  obtain ⟨vs, H1, I1, r1, hl, hle, q1⟩ := hh
  obtain ⟨v, z, rfl⟩ : ∃ v z, vs = [v, z] := by
    match vs, hl with
    | [v, z], _ => exact ⟨v, z, rfl⟩
    | [], z => cases z
    | [_], z => simp at z
    | _ :: _ :: _ :: _, z => simp at z
  refine ⟨I1.kIn, ?_⟩
  cases r1 with
  | cons rv rn =>
   cases rn with
   | cons rz rn =>
    rename_i v' z' us'
    cases rn
    show wpAny _ _ (call (.ref C) [v', z']) _ _ _
    have hlim := I1.nolimit
    have hG : s1.heap.Ns mainGlobals X.mg := I1.mod.glob.keeps I1.bk
    have hB : ∃ mb, s1.heap.Ns builtinsNs mb ∧ mb "super" = bootBuiltins "super" := by
      obtain ⟨mb, h1, h2⟩ := I1.mod.blt
      exact ⟨mb, h1.keeps I1.bk, h2 _ (by decide)⟩
    obtain ⟨hp, g, dr, tk, os⟩ := s1
    refine wpAny_call (FxS.sup_made2 T I1.kIn hlim hG hB (by have := hr.dp; omega) fun h' tk' e d M => ?_)
    show MkP X pins σ Q (.ref e) ⟨h', g, dr, tk', os⟩
    obtain ⟨oe, fv, hoe, hc, hd, hdat, h1⟩ := M.obj
    have hns := M.ns
    obtain ⟨G', g1, g2⟩ := restrict h' fun b => decide (b ≠ e)
    have gk : ∀ b, b ≠ e → G'.get? b = h'.get? b := fun b hb => g1 b (decide_eq_true hb)
    have ge : G'.get? e = none := g2 e (by simp)
    have old : ∀ b o, hp.get? b = some o → G'.get? b = some o := fun b o q => (gk b (Nat.ne_of_lt (Nat.lt_of_lt_of_le (Heap.lt_size q) M.new))).trans (M.keep b o q)
    have ob : ObjOk X.prog X.w (upd H1 d (.xd [(fld, v), (fl2, z)])) G' d (.xd [(fld, v), (fl2, z)]) :=
      ⟨_, hns.at (fun o q => (gk d M.dne).trans q), fun f => relO_two h12 rv rz f⟩
    have J : L2.Inv X pins σ (upd H1 d (.xd [(fld, v), (fl2, z)])) ⟨G', g, dr, tk', os⟩ := I1.laid (t' := tk') old M.dbig ob
    refine ⟨e, oe, fv, ⟨G', g, dr, tk', os⟩, _, .ref C, some d, rfl, J, fun b o q => ?_, ge, hoe, ⟨hc, hd⟩, hdat, h1, ?_, rfl, I1.bare, raises_own T.exC T.tyC, q1 d (I1.hok.fresh M.dbig)⟩
    · by_cases hb : b = e
      · have q' : G'.get? b = some o := q
        rw [hb, ge] at q'; cases q'
      · exact (gk b hb).symm.trans q
    · rw [upd_ne (Ne.symm M.dne)]
      exact I1.hok.fresh M.new
theorem need_rse2 {g : Tab} {P : Program} {w : World} {K : PySem.W.Frag} {mg : Str → Option Value} {base : Heap} {k : Nat} {x fld fl2 : Str} {C : Nat} {fI : Addr} (T : FxS.SupTxt2 P K mg x fld fl2 (g.xa C) fI) (hf : g.xf C = [fld, fl2]) (h12 : (fld == fl2) = false) (hdb : (x == ("__debug__" : Str)) = false) : NeedP g P w K mg base k (.rse x C 2) := by
  intro X h1 h2 h3 h4 h5
  subst h1 h2 h3 h4 h5
  refine ⟨by rw [hf]; rfl, by decide, by decide, fun X' e1 e2 e3 e4 e5 hr hc e es t p pos ha hs hg => ?_⟩
  have T' : FxS.SupTxt2 X'.prog X'.K X'.mg x fld fl2 (g.xa C) fI := by rw [e1, e3, e4]; exact T
  have hs' : nStar e = true ∧ nStars es = true := by simpa [nStars] using hs
  rw [hf]
  exact pmk_sup2 T' h12 hr ha hg hdb (star_cons hs'.1) (back_any hs'.2)
end Fx

/-! What a law's own text wants: recursion, constants, the end. -/
namespace Fx
open PySem PySem.Spec PyProof.Rows L2
section
variable {g : Tab} {P : Program} {w : World} {K : PySem.W.Frag} {mg : Str → Option Value} {base : Heap} {k : Nat}
/-- a def that calls itself: some calls deep -/
theorem fn_rec {x qual : Str} {st : Stmt} {f : Addr} {fd : FuncData} {ps : List Str} {r : Nat → Sem'} (F : L2.Fun K x qual st f fd) (h0 : r 0 = fun _ => .no) 
    (step : ∀ n, FnOk P w K mg base (L2.CX P w) (k + n) f fd ps (spOf K g (r n)) → FnOk P w K mg base (L2.CX P w) (k + n + 1) f fd ps (spOf K g (r (n + 1)))) : ∀ n, FnOk P w K mg base (L2.CX P w) (k + n) f fd ps (spOf K g (r n)) := by
  intro n
  induction n with
  | zero =>
    rw [h0]
    exact ⟨fun vs H Q E ⟨_, _, _, _, z⟩ => z.elim, fun A outer s H args us vs Q E hr he hb hv ⟨_, _, _, _, z⟩ => z.elim⟩
  | succ n ih => exact step n ih
inductive AllT {α : Type} (Pr : Nat → α → Prop) : List (Nat × α) → Prop where
  | nil : AllT Pr []
  | cons {c : Nat} {b : α} {r : List (Nat × α)} : Pr c b → AllT Pr r → AllT Pr ((c, b) :: r)
theorem tabAll {α : Type} {Pr : Nat → α → Prop} {tab : List (Nat × α)} (h : AllT Pr tab) : ∀ C b, List.lookup C tab = some b → Pr C b := by
  induction h with
  | nil => intro C b e; cases e
  | @cons c b r hp _ ih =>
    intro C b' e
    rw [List.lookup_cons] at e
    split at e
    · rename_i hc
      cases e
      rw [eq_of_beq hc]
      exact hp
    · exact ih C b' e
theorem exm_of {c S : Addr} {b : Bool} (h1 : PySem.W.subIn K (.ref S) (.type "BaseException") = some true) (h2 : PySem.W.isClsIn K S = true) (h3 : PySem.W.typeIn K (.ref S) = some (.type "type")) (h4 : PySem.W.subIn K (.ref c) (.ref S) = some b) :
    PySem.W.exmOne K (.ref c) (.ref S) = some b := by
  have e1 : (PySem.W.subIn K (.ref S) (.type "BaseException") == some true) = true := by rw [h1] <;> rfl
  have e2 : ((PySem.W.clsIn K S).isSome && PySem.W.typeIn K (.ref S) == some (.type "type")) = true := by
    have h2' : (PySem.W.clsIn K S).isSome = true := h2
    rw [h2', h3] <;> rfl
  show (if (PySem.W.subIn K (.ref S) (.type "BaseException") == some true) = true then (if ((PySem.W.clsIn K S).isSome && PySem.W.typeIn K (.ref S) == some (.type "type")) = true then PySem.W.subIn K (.ref c) (.ref S) else none) else none) = some b
  rw [if_pos e1, if_pos e2]
  exact h4
theorem kit_of {x y : Addr} {b : Bool} (h1 : PySem.W.isClsIn K y = true) (h2 : PySem.W.typeIn K (.ref y) = some (.type "type")) (h3 : PySem.W.subIn K (.ref x) (.ref y) = some b) (h4 : PySem.W.subIn K (.ref y) (.ref y) = some true) : PySem.W.kitOne K (.ref x) (.ref y) = some b := by
  unfold PySem.W.kitOne
  by_cases hx : x = y
  · subst hx
    rw [h3] at h4
    cases h4
    rw [if_pos (by simp)]
  · rw [if_neg (by simpa using hx)]
    have h1' : (PySem.W.clsIn K y).isSome = true := h1
    show (if ((PySem.W.clsIn K y).isSome && PySem.W.typeIn K (.ref y) == some (.type "type")) = true then PySem.W.subIn K (.ref x) (.ref y) else none) = some b
    rw [h1', h2, if_pos (by rfl)]
    exact h3
/-- a tuple of the text -/
theorem rep_ktup {F : Hp} {a : Addr} {od : Option Addr} {its : List Value} {n : Nat} {sl : Array (Option Value)} {xs : List Fx.D} {vs : List V} (hk : K.lookup a = some ⟨.type "tuple", od, .seq its.toArray n, sl⟩) (hz : its.length ≤ 1000) (hv : L2.Vals vs its) (r : RepL K g F xs vs) : Rep K g F (.tup xs) (.ref a) := by
  refine Rep.mkT (.inr ⟨_, its.toArray, n, hk, rfl, rfl, ?_, by simpa using hv⟩) r
  rw [List.size_toArray, sizeLine_eq]
  omega
end
/-- the end: a law that answers true on every script -/
theorem walkL {l : PySem.W.OpenLaw} {q : Program} {loose : List Str} {XP : (Str → Option Value) → Heap → Prop} {YP : World → Heap → Prop} {d : DefRec} {K : Params → PySem.W.Frag} {k : Nat} {law : Sem'} (hn : l.most = some 63) (hdf : d.params.defaults = []) (hr : Room k callerA)
    (hY : ∀ (w : World) (h : Heap), YP w h → (K w.params).In h) (math : ∀ ns : List Int, ns.length ≤ 63 → ∃ m, law [(.frz, .scr ns)] = .ok (m, .bl true))
    (F : ∀ (w : World) (mg : Str → Option Value) (fa : Addr) (h : Heap), (K w.params).In h → h.Ns mainGlobals mg → mg d.name = some (.ref fa) →
      ∃ fd : FuncData, (∀ (s : Shared) (u : Value), BindsTo s fd ⟨[u], []⟩ [("script", u)]) ∧ ∀ base : Heap, (K w.params).In base → base.Ns mainGlobals mg → ∃ g : Tab, FnOk l.prog w (K w.params) mg base (L2.CX l.prog w) k fa fd ["script"] (spOf (K w.params) g law)) :
    PySem.W.WalkO q loose XP YP l.row.toRowW d [] (fun f vs => PySem.call f vs) := by
  refine L2.walk_of (n := 63) (k := k) (x := "script") (CX := fun w => L2.CX l.prog w) (sp := fun w => fun vs H Q E => ∃ (a : Addr) (ns : List Int), vs = [.ref a] ∧ ns.length ≤ 63 ∧ SqL (K w.params) H a (ns.map V.int) ∧ ∀ H', Q (.bl true) H') hn (by decide) hdf hr hY (fun w mg fa h KX G hm => ?_)
    (fun w H a ns hl _ hS => ⟨a, ns, rfl, hl, hS, fun _ => rfl⟩) fun w H s e s' ⟨_, _, _, _, _, _, _, _, _, _, _, _, z⟩ => z
  obtain ⟨fd, hb, hF⟩ := F w mg fa h KX G hm
  refine ⟨fd, hb, fun base b1 b2 => ?_⟩
  obtain ⟨g, hg⟩ := hF base b1 b2
  refine hg.imp fun vs H Q E ⟨a, ns, e, hl, hS, hq⟩ => ?_
  subst e
  obtain ⟨m, hm⟩ := math ns hl
  refine ⟨H, [(.frz, .scr ns)], fun _ _ z => z, .cons (show Rep (K w.params) g H (.scr ns) (.ref a) from by simp only [Rep]; exact ⟨a, rfl, hS⟩) .nil, ?_⟩
  rw [hm]
  intro v F' H' e r
  cases m with
  | frz =>
    have r2 := Rep.bl (show Rep (K w.params) g F' (.bl true) v from r)
    rw [r2]
    exact hq H'
  | own => obtain ⟨_, _, _, _, z⟩ := r; exact z.elim
  | bor => exact r.elim
  | lnt => exact r.elim
end Fx

/-! sorted(a list), of any length, of data that can be compared. -/
namespace Fx
open PySem PySem.Spec PyProof.Rows L2
def D.le (a b : Fx.D) : Bool := PySem.W.dataLe false toP a b
def isTupC : Fx.D → Bool
  | .tup (_ :: _) => true
  | _ => false
def isPlainC : Fx.D → Bool
  | .non => false
  | .tup _ => false
  | _ => true
def isTup0 : Fx.D → Bool
  | .tup [] => true
  | _ => false
/-- what may be sorted -/
def sortOk (xs : List Fx.D) : Bool := xs.all Fx.D.cmpOk && (xs.all fun a => xs.all fun b => PySem.W.alike (toP a) (toP b)) && (xs.all isTupC || xs.all isPlainC || (decide (xs.length ≤ 1) && xs.all isTup0))
def sortedD (ds : List Fx.D) : Fx.R Val := match ds with
  | [.lst xs] => if sortOk xs then .ok (.own, .lst (xs.mergeSort Fx.D.le)) else .no
  | [.dct ks _] => if sortOk ks then .ok (.own, .lst (ks.mergeSort Fx.D.le)) else .no
  | _ => .no
/-- a built-in of data alone -/
def primD (k : List Fx.D → Fx.R Val) : Sem' := fun vs => k (vs.map Prod.snd)
def sortedS : Sem' := primD sortedD
theorem toArg_snd (v : Val) : (toArg v).2 = v.2 := by
  obtain ⟨m, d⟩ := v
  cases m <;> rfl
theorem primD_arg (k : List Fx.D → Fx.R Val) (vs : List Val) : primD k (vs.map toArg) = k (vs.map Prod.snd) := by
  unfold primD
  rw [List.map_map]
  congr 1
  exact List.map_congr_left fun v _ => toArg_snd v
section
variable {prog : Program} {w : World} {A : Around} {s : Shared}
/-- at most one empty tuple -/
theorem sortsAt_one {vs : List Value} {ds : List PyData} (e : PySem.W.EachIs (fun v d => ∃ as, Reads s.heap v d as) vs ds) (h1 : ds.length ≤ 1) (h0 : ∀ d ∈ ds, d = .tuple []) (hu : A.units < cLine) : PySem.W.SortsAt prog w A s (PySem.W.dataKind s.heap ds) vs := by
  have hal : PySem.W.AllAlike ds := fun d hd d' hd' => by rw [h0 d hd, h0 d' hd']; rfl
  refine ⟨fun v hv => ?_, tuples' true, fun E x y a b Q ha hb hq => ?_, fun h2 => ?_⟩
  · obtain ⟨d, hd, as, r⟩ := e.left v hv
    exact ⟨_, PySem.W.dataKind_some hal hd r⟩
  · obtain ⟨d, as, hd, ra, rfl⟩ := PySem.W.dataKind_inv ha
    obtain ⟨d', as', hd', rb, rfl⟩ := PySem.W.dataKind_inv hb
    obtain rfl := h0 d hd
    obtain rfl := h0 d' hd'
    cases ra with
    | @tuple l o xs n _ _ h1 h2 h3 h4 =>
      cases rb with
      | @tuple l' o' xs' n' _ _ k1 k2 k3 k4 =>
        have n1 : xs.size = 0 := by simpa using SeqAt.ReadsAll.length _ _ _ h4
        have n2 : xs'.size = 0 := by simpa using SeqAt.ReadsAll.length _ _ _ k4
        refine PySem.W.kat_lt h1 h3 k1 k3 (PySem.W.katLex_alike [] [] 0 _ _ _ _ h4 k4 rfl (by simp [PyData.depthAll]; omega) (fun _ _ x r t ex => by cases ex) (by rw [n1, n2]; rfl) ?_)
        have q : Q (PySem.W.dataLt (.tuple []) (.tuple [])) s := hq
        rw [PySem.W.dataLt_tuple] at q
        exact q
  · have := e.length
    omega
end
section
variable {X : Cx} {g : Tab}
def rSortedD (K : PySem.W.Frag) (g : Tab) : List V → Hp → VK → Prop := fun vs H Q => ∃ F a xs ws, vs = [.ref a] ∧ (∀ a o, F a = some o → H a = some o) ∧ SqL K H a ws ∧ RepL K g F xs ws ∧ sortOk xs = true ∧
  ∀ p ws', RepL K g F (xs.mergeSort Fx.D.le) ws' → H p = none → Q (.ref p) (upd H p (.lst ws'))
theorem rep_pairs {K : PySem.W.Frag} {F : Hp} : ∀ {l : List (Fx.D × V)}, (∀ b ∈ l, Rep K g F b.1 b.2) → RepL K g F (l.map Prod.fst) (l.map Prod.snd)
  | [], _ => .nil
  | b :: l, h => .cons (h b (by simp)) (rep_pairs fun c hc => h c (by simp [hc]))
theorem cr_sortedD (hu : X.A.units + 65 < cLine) : CallR X (.builtin "sorted") (rSortedD X.K g) := by
  intro pins s σ H vs us Q I r ⟨F, a, xs, ws, e, sb, hs, rl, ok, q⟩
  subst e
  obtain ⟨its, rv, hl, hz⟩ := I.list hs
  rw [Vals.ref1 r]
  simp only [sortOk, Bool.and_eq_true] at ok
  obtain ⟨⟨ok1, ok2⟩, ok3⟩ := ok
  have key : ∀ {xs : List Fx.D} {ws : List V} {its : List Value}, RepL X.K g F xs ws → Vals ws its → xs.all Fx.D.cmpOk = true →
      PySem.W.EachIs (fun (v : Value) (b : Fx.D × V) => L2.RelV b.2 v) its (xs.zip ws) ∧ PySem.W.EachIs (fun (v : Value) (b : Fx.D × V) => ∃ as, Reads s.heap v (toP b.1) as) its (xs.zip ws) ∧ (xs.zip ws).map Prod.fst = xs ∧ ∀ b ∈ xs.zip ws, Rep X.K g F b.1 b.2 := by
    intro xs
    induction xs with
    | nil =>
      intro ws its rl rv _
      rw [rl.inv0] at rv ⊢
      cases rv
      exact ⟨.nil, .nil, rfl, fun b hb => by cases hb⟩
    | cons x xs ih =>
      intro ws its rl rv ha
      obtain ⟨v, w, rfl, r1, r2⟩ := rl.inv
      cases rv with
      | cons rq rt =>
        simp only [List.all_cons, Bool.and_eq_true] at ha
        obtain ⟨k1, k2, k3, k4⟩ := ih r2 rt ha.2
        refine ⟨.cons rq k1, .cons ?_ k2, by simp [k3], fun b hb => ?_⟩
        · exact Dp.reads I _ _ _ (Rep.dp sb _ _ r1 (cmp_dat ha.1)) rq
        · rcases List.mem_cons.mp hb with rfl | hb
          · exact r1
          · exact k4 b hb
  obtain ⟨e1, e2, e3, e4⟩ := key rl rv ok1
  have hlen : (xs.zip ws).length = xs.length := by rw [List.length_zip, rl.length]; simp
  have hbs : (xs.zip ws).map (fun b : Fx.D × V => toP b.1) = xs.map toP := by
    have : (xs.zip ws).map (fun b : Fx.D × V => toP b.1) = ((xs.zip ws).map Prod.fst).map toP := by rw [List.map_map]; rfl
    rw [this, e3]
  have hal : PySem.W.AllAlike ((xs.zip ws).map fun b : Fx.D × V => toP b.1) := by
    rw [hbs]
    intro d hd d' hd'
    obtain ⟨x, hx, rfl⟩ := List.mem_map.mp hd
    obtain ⟨y, hy, rfl⟩ := List.mem_map.mp hd'
    exact List.all_eq_true.mp (List.all_eq_true.mp ok2 x hx) y hy
  have hdep : ∀ b ∈ xs.zip ws, X.A.units + 2 + (toP b.1).depth < cLine := by
    intro b hb
    have hm : b.1 ∈ xs := by rw [← e3]; exact List.mem_map_of_mem hb
    have hc := List.all_eq_true.mp ok1 b.1 hm
    simp only [Fx.D.cmpOk, Bool.and_eq_true, decide_eq_true_eq] at hc
    rw [toP_dep]
    omega
  have fin : ∀ out : List Value, out.length = (xs.zip ws).length → PySem.W.EachIs (fun (v : Value) (b : Fx.D × V) => L2.RelV b.2 v) out ((xs.zip ws).mergeSort (PySem.W.dataLe false fun b : Fx.D × V => toP b.1)) →
      EP X pins σ Q (.ref (s.heap.objs.size + 1)) { s with heap := PyProof.Rows.sortedAll s.heap its out.toArray } := by
    intro out ho ee
    generalize hbb : (xs.zip ws).mergeSort (PySem.W.dataLe false fun b : Fx.D × V => toP b.1) = bb at ee
    have m1 : bb.map Prod.fst = xs.mergeSort Fx.D.le := by
      rw [← hbb, List.map_mergeSort (r := PySem.W.dataLe false fun b : Fx.D × V => toP b.1) (s := Fx.D.le) (fun a _ b _ => rfl), e3]
    have m2 : RepL X.K g F (bb.map Prod.fst) (bb.map Prod.snd) := rep_pairs fun b hb => e4 b (by rw [← hbb] at hb; exact (List.mergeSort_perm _ _).mem_iff.mp hb)
    have m3 : Vals (bb.map Prod.snd) out := by
      clear m1 m2 hbb ho
      induction ee with
      | nil => exact .nil
      | cons h _ ih => exact .cons h ih
    rw [m1] at m2
    obtain ⟨ep, he'⟩ := PyProof.Rows.sortedAll_at s.heap its out.toArray
    have hz2 : (bb.map Prod.snd).length ≤ sizeLine := by
      rw [m3.length, ho, hlen, ← rl.length]
      exact hz
    exact ⟨.ref _, upd H (s.heap.objs.size + 1) (.lst (bb.map Prod.snd)), I.laid (t' := s.toks) (fun _ _ => PyProof.Rows.sortedAll_old) (Nat.le_succ _) ⟨hz2, out, ep, m3, he'⟩, rfl, q _ _ m2 (I.hok.fresh (Nat.le_succ _))⟩
  have hL : (xs.zip ws).length ≤ sizeLine := by rw [hlen, ← rl.length]; exact hz
  simp only [Bool.or_eq_true, Bool.and_eq_true, decide_eq_true_eq] at ok3
  rcases ok3 with (ok3 | ok3) | ⟨o1, o2⟩
  · refine PySem.W.sorted_data hl.isList e1 e2 hal (.inl fun d hd => ?_) hL hdep fin
    rw [hbs] at hd
    obtain ⟨x, hx, rfl⟩ := List.mem_map.mp hd
    have hx2 := List.all_eq_true.mp ok3 x hx
    match x, hx2 with
    | .tup (z :: zs), _ => exact ⟨toP z, toPL zs, by simp [toP, toPL]⟩
  · refine PySem.W.sorted_data hl.isList e1 e2 hal (.inr fun d hd => ?_) hL hdep fin
    rw [hbs] at hd
    obtain ⟨x, hx, rfl⟩ := List.mem_map.mp hd
    have hx2 := List.all_eq_true.mp ok3 x hx
    have hx3 := cmp_dat (List.all_eq_true.mp ok1 x hx)
    cases x <;> first | (cases hx2; done) | (simp [D.dat] at hx3; done) | (simp [toP])
  · refine PySem.W.sorted_vals hl.isList (sortsAt_one (s := { s with heap := PySem.W.sortingHeap (PySem.W.copyHeap s.heap its) (s.heap.objs.size + 1) its }) (ds := (xs.zip ws).map fun b : Fx.D × V => toP b.1) ?_ (by rw [List.length_map, hlen]; exact o1) (fun d hd => ?_) ?_) (by rw [e1.length]; exact hL) ?_
    · exact PySem.W.each_map (R := fun v d => ∃ as, Reads (PySem.W.sortingHeap (PySem.W.copyHeap s.heap its) (s.heap.objs.size + 1) its) v d as) _ (e2.mono fun _ _ ⟨as, r⟩ => ⟨as, PyProof.Rows.Reads.keeps (fun _ _ => PySem.W.sorting_copy_old) r⟩)
    · rw [hbs] at hd
      obtain ⟨x, hx, rfl⟩ := List.mem_map.mp hd
      have hx2 := List.all_eq_true.mp o2 x hx
      match x, hx2 with
      | .tup [], _ => simp [toP, toPL]
    · have : X.A.in1.in1.units = X.A.units + 1 + 1 := rfl
      omega
    · have ER := e2.mono (R' := fun (v : Value) (b : Fx.D × V) => ∃ as, Reads (PySem.W.sortingHeap (PySem.W.copyHeap s.heap its) (s.heap.objs.size + 1) its) v (toP b.1) as) fun _ _ ⟨as, r⟩ => ⟨as, PyProof.Rows.Reads.keeps (fun _ _ => PySem.W.sorting_copy_old) r⟩
      exact fin _ (by rw [PySem.W.sortVals_length false rfl]; exact e1.length) (PySem.W.sortVals_data false e1 ER hal)
end
/-! sorted(a dict): its keys -/
def rSortedDct (K : PySem.W.Frag) (g : Tab) : List V → Hp → VK → Prop := fun vs H Q => ∃ F a ep ks ds kvs vvs, vs = [.ref a] ∧ (∀ a o, F a = some o → H a = some o) ∧ DHas K g F H a ep ks ds kvs vvs ∧ sortOk ks = true ∧
  ∀ p ws', RepL K g F (ks.mergeSort Fx.D.le) ws' → H p = none → Q (.ref p) (upd H p (.lst ws'))
theorem cr_sortedDct (hw : g.wd = X.w) (hc : X.calm = true) (hu : X.A.units + 65 < cLine) : CallR X (.builtin "sorted") (rSortedDct X.K g) := by
  intro pins s σ H vs us Q I r ⟨F, a, ep, ks, ds, kvs, vvs, e, sb, h, ok, q⟩
  subst e
  rw [Vals.ref1 r]
  obtain ⟨h1, h2, xs, o, en, h3, h4, h5, kx, he, dd⟩ := has_heap hw I sb h
  have hl := kx.len.1
  have hl2 := kx.len.2.1
  have rv := kx.vals
  generalize hits : xs.map (fun x => Value.ref x.2.1) = its at rv
  simp only [sortOk, Bool.and_eq_true] at ok
  obtain ⟨⟨ok1, ok2⟩, ok3⟩ := ok
  have key : ∀ {xs : List Fx.D} {ws : List V} {its : List Value}, RepL X.K g F xs ws → Vals ws its → xs.all Fx.D.cmpOk = true →
      PySem.W.EachIs (fun (v : Value) (b : Fx.D × V) => L2.RelV b.2 v) its (xs.zip ws) ∧ PySem.W.EachIs (fun (v : Value) (b : Fx.D × V) => ∃ as, Reads s.heap v (toP b.1) as) its (xs.zip ws) ∧ (xs.zip ws).map Prod.fst = xs ∧ ∀ b ∈ xs.zip ws, Rep X.K g F b.1 b.2 := by
    intro xs
    induction xs with
    | nil =>
      intro ws its rl rv _
      rw [rl.inv0] at rv ⊢
      cases rv
      exact ⟨.nil, .nil, rfl, fun b hb => by cases hb⟩
    | cons x xs ih =>
      intro ws its rl rv ha
      obtain ⟨v, w, rfl, r1, r2⟩ := rl.inv
      cases rv with
      | cons rq rt =>
        simp only [List.all_cons, Bool.and_eq_true] at ha
        obtain ⟨k1, k2, k3, k4⟩ := ih r2 rt ha.2
        refine ⟨.cons rq k1, .cons ?_ k2, by simp [k3], fun b hb => ?_⟩
        · exact Dp.reads I _ _ _ (Rep.dp sb _ _ r1 (cmp_dat ha.1)) rq
        · rcases List.mem_cons.mp hb with rfl | hb
          · exact r1
          · exact k4 b hb
  obtain ⟨e1, e2, e3, e4⟩ := key h.rk rv ok1
  have hlen : (ks.zip kvs).length = ks.length := by rw [List.length_zip, h.rk.length]; simp
  have hbs : (ks.zip kvs).map (fun b : Fx.D × V => toP b.1) = ks.map toP := by
    have : (ks.zip kvs).map (fun b : Fx.D × V => toP b.1) = ((ks.zip kvs).map Prod.fst).map toP := by rw [List.map_map]; rfl
    rw [this, e3]
  have hal : PySem.W.AllAlike ((ks.zip kvs).map fun b : Fx.D × V => toP b.1) := by
    rw [hbs]
    intro d hd d' hd'
    obtain ⟨x, hx, rfl⟩ := List.mem_map.mp hd
    obtain ⟨y, hy, rfl⟩ := List.mem_map.mp hd'
    exact List.all_eq_true.mp (List.all_eq_true.mp ok2 x hx) y hy
  have hdep : ∀ b ∈ ks.zip kvs, X.A.units + 2 + (toP b.1).depth < cLine := by
    intro b hb
    have hm : b.1 ∈ ks := by rw [← e3]; exact List.mem_map_of_mem hb
    have hcc := List.all_eq_true.mp ok1 b.1 hm
    simp only [Fx.D.cmpOk, Bool.and_eq_true, decide_eq_true_eq] at hcc
    rw [toP_dep]
    omega
  have hsz : en.size = xs.length := by
    have := congrArg List.length he
    simpa using this
  refine PySem.Calls.call_function_entry PyProof.Rows.kind_sorted PyProof.Rows.plain_sorted PyProof.Rows.entry_sorted (PyProof.Rows.args_sorted1 _) ?_
  unfold Builtin.«sorted»
  refine wpAny_bind (m := checkCount "sorted" 1 1 _) (wpAny_pure ?_)
  refine wpAny_bind (PySem.W.kdu_collect (A := X.A.in1) (PySem.KdlSrc.rawDict (es := en) (ep := ep) h1) (I.ok.hd hc) ⟨o, h3, h4, h5⟩ (by rw [hsz, hl]; exact h2) fun h' tk acc' hk hacc => ?_)
  have ev : acc'.toList = its := by
    rw [← hits]
    apply List.ext_getElem?
    intro i
    by_cases hi : i < en.size
    · have hi2 : i < acc'.size := by rw [hacc.1]; exact hi
      obtain ⟨_, e1⟩ := hacc.2 i acc'[i] (by rw [Array.getElem?_eq_getElem hi2])
      have e2 : en.toList[i]? = some en[i] := by simp [hi]
      rw [he, List.getElem?_map] at e2
      obtain ⟨x, g1, g2⟩ := Option.map_eq_some_iff.mp e2
      rw [List.getElem?_map, g1, Array.getElem?_toList, Array.getElem?_eq_getElem hi2, e1, ← g2]
      rfl
    · rw [List.getElem?_eq_none (by rw [Array.length_toList, hacc.1]; omega), List.getElem?_eq_none (by rw [List.length_map]; omega)]
  rw [ev]
  have hil : its.length = ks.length := by rw [← rv.length, hl2]
  refine wpAny_bind (wpAny_newList ?_ (by rw [hil]; exact h2))
  have hfresh : H h'.objs.size = none := (I.hok.kept hk).fresh (Nat.le_refl _)
  have hget : s.heap.get? h'.objs.size = none := by
    cases e : s.heap.get? h'.objs.size with
    | none => rfl
    | some u => exact absurd (Heap.lt_size (hk _ _ e)) (Nat.lt_irrefl _)
  have ho : (h'.push { cls := .type "list", data := .seq its.toArray }).get? h'.objs.size = some (PyProof.Rows.seqObj "list" its.toArray 0) := Heap.get?_push_size _ rfl
  have old : ∀ out : Array Value, ∀ b u, s.heap.get? b = some u → (PyProof.Rows.sortedHeap (h'.push { cls := .type "list", data := .seq its.toArray }) h'.objs.size its out).get? b = some u := fun out b u e => by
    have hb := hk _ _ e
    have hlt := Heap.lt_size hb
    rw [PyProof.Rows.sortedHeap_old (Nat.ne_of_lt hlt) (by rw [Heap.size_push]; exact Nat.lt_succ_of_lt hlt)]
    exact Heap.get?_push_of_some _ hb
  have old2 : ∀ b u, s.heap.get? b = some u → (PySem.W.sortingHeap (h'.push { cls := .type "list", data := .seq its.toArray }) h'.objs.size its).get? b = some u := fun b u e => by
    have hb := hk _ _ e
    exact PySem.W.sortingHeap_old (Nat.ne_of_lt (Heap.lt_size hb)) (Heap.get?_push_of_some _ hb)
  have er := e2.mono (R' := fun (v : Value) (b : Fx.D × V) => ∃ as, Reads (PySem.W.sortingHeap (h'.push { cls := .type "list", data := .seq its.toArray }) h'.objs.size its) v (toP b.1) as) fun _ _ ⟨as, r⟩ => ⟨as, PyProof.Rows.Reads.keeps old2 r⟩
  have fin : ∀ (tk' : Nat) (out : List Value), out.length = (ks.zip kvs).length → PySem.W.EachIs (fun (v : Value) (b : Fx.D × V) => L2.RelV b.2 v) out ((ks.zip kvs).mergeSort (PySem.W.dataLe false fun b : Fx.D × V => toP b.1)) →
      EP X pins σ Q (.ref h'.objs.size) { s with heap := PyProof.Rows.sortedHeap (h'.push { cls := .type "list", data := .seq its.toArray }) h'.objs.size its out.toArray, toks := tk' } := by
    intro tk' out ho2 ee
    generalize hbb : (ks.zip kvs).mergeSort (PySem.W.dataLe false fun b : Fx.D × V => toP b.1) = bb at ee
    have m1 : bb.map Prod.fst = ks.mergeSort Fx.D.le := by
      rw [← hbb, List.map_mergeSort (r := PySem.W.dataLe false fun b : Fx.D × V => toP b.1) (s := Fx.D.le) (fun a _ b _ => rfl), e3]
    have m2 : RepL X.K g F (bb.map Prod.fst) (bb.map Prod.snd) := rep_pairs fun b hb => e4 b (by rw [← hbb] at hb; exact (List.mergeSort_perm _ _).mem_iff.mp hb)
    have m3 : Vals (bb.map Prod.snd) out := by
      clear m1 m2 hbb ho2
      induction ee with
      | nil => exact .nil
      | cons h _ ih => exact .cons h ih
    rw [m1] at m2
    obtain ⟨ep2, he'⟩ := PyProof.Rows.sortedHeap_at (out := out.toArray) ho
    have hz2 : (bb.map Prod.snd).length ≤ sizeLine := by
      rw [m3.length, ho2, hlen]
      exact h2
    exact ⟨.ref _, upd H h'.objs.size (.lst (bb.map Prod.snd)), I.laidN (t' := tk') (old out.toArray) hget hfresh ⟨hz2, out, ep2, m3, he'⟩, rfl, q _ _ m2 hfresh⟩
  have hL : its.length ≤ sizeLine := by rw [hil]; exact h2
  simp only [Bool.or_eq_true, Bool.and_eq_true, decide_eq_true_eq] at ok3
  have hed := PySem.W.each_map (R := fun v d => ∃ as, Reads (PySem.W.sortingHeap (h'.push { cls := .type "list", data := .seq its.toArray }) h'.objs.size its) v d as) (fun b : Fx.D × V => toP b.1) er
  have sorts : PySem.W.SortsAt X.prog X.w X.A.in1.in1 { s with heap := PySem.W.sortingHeap (h'.push { cls := .type "list", data := .seq its.toArray }) h'.objs.size its, toks := tk } (PySem.W.dataKind (PySem.W.sortingHeap (h'.push { cls := .type "list", data := .seq its.toArray }) h'.objs.size its) ((ks.zip kvs).map fun b : Fx.D × V => toP b.1)) its := by
    have hun : X.A.in1.in1.units = X.A.units + 1 + 1 := rfl
    have hdd : ∀ d, d ∈ (ks.zip kvs).map (fun b : Fx.D × V => toP b.1) → X.A.in1.in1.units + d.depth < cLine := by
      intro d hd
      obtain ⟨b, hb, rfl⟩ := List.mem_map.mp hd
      have := hdep b hb
      omega
    rcases ok3 with (ok3 | ok3) | ⟨o1, o2⟩
    · refine PySem.W.SortsAt.data hed hal (.inl fun d hd => ?_) hdd
      rw [hbs] at hd
      obtain ⟨x, hx, rfl⟩ := List.mem_map.mp hd
      have hx2 := List.all_eq_true.mp ok3 x hx
      match x, hx2 with
      | .tup (z :: zs), _ => exact ⟨toP z, toPL zs, by simp [toP, toPL]⟩
    · refine PySem.W.SortsAt.data hed hal (.inr fun d hd => ?_) hdd
      rw [hbs] at hd
      obtain ⟨x, hx, rfl⟩ := List.mem_map.mp hd
      have hx2 := List.all_eq_true.mp ok3 x hx
      have hx3 := cmp_dat (List.all_eq_true.mp ok1 x hx)
      cases x <;> first | (cases hx2; done) | (simp [D.dat] at hx3; done) | (simp [toP])
    · refine sortsAt_one hed (by rw [List.length_map, hlen]; exact o1) (fun d hd => ?_) (by omega)
      rw [hbs] at hd
      obtain ⟨x, hx, rfl⟩ := List.mem_map.mp hd
      have hx2 := List.all_eq_true.mp o2 x hx
      match x, hx2 with
      | .tup [], _ => simp [toP, toPL]
  refine wpAny_bind (wpAny_holding (wpAny_mono (Q := fun _ s' => EP X pins σ Q (.ref h'.objs.size) s') (wpAny_call_entry PyProof.Rows.slot_list_sort ⟨_, ho, rfl⟩ PyProof.Rows.entry_list_sort (PySem.W.list_sort_vals (s := { s with heap := h'.push { cls := .type "list", data := .seq its.toArray }, toks := tk }) ho sorts hL ⟨.none, rfl, ?_⟩) (PyProof.Rows.args_list_sort _)) (fun _ s' x => ?_) fun _ _ e => e))
  · exact fin tk _ (by rw [PySem.W.sortVals_length false rfl]; exact e1.length) (PySem.W.sortVals_data false e1 er hal)
  · exact wpAny_pure ⟨_, rfl, x⟩
/-! min(a list of ints) -/
def minL (n : Int) (ns : List Int) : Int := ns.foldl (fun a b => if b < a then b else a) n
theorem minL_mem : ∀ (ns : List Int) (n : Int), minL n ns ∈ n :: ns ∧ ∀ y ∈ n :: ns, minL n ns ≤ y
  | [], n => ⟨by simp [minL], fun y hy => by simp at hy; subst hy; exact Int.le_refl _⟩
  | m :: ns, n => by
    have ih := minL_mem ns (if m < n then m else n)
    have e : minL n (m :: ns) = minL (if m < n then m else n) ns := rfl
    rw [e]
    have h1 : (if m < n then m else n) ≤ n ∧ (if m < n then m else n) ≤ m := by split <;> omega
    refine ⟨?_, fun y hy => ?_⟩
    · rcases List.mem_cons.mp ih.1 with h | h
      · rw [h]; split <;> simp
      · exact List.mem_cons_of_mem _ (List.mem_cons_of_mem _ h)
    · have h0 := ih.2 _ (List.mem_cons_self ..)
      rcases List.mem_cons.mp hy with rfl | hy
      · omega
      · rcases List.mem_cons.mp hy with rfl | hy
        · omega
        · exact ih.2 y (List.mem_cons_of_mem _ hy)
def minD (ds : List Fx.D) : Fx.R Val := match ds with
  | [.lst xs] => (R.ofOpt (intsOf xs)).bind fun ns => match ns with
    | n :: r => .ok (.frz, .int (minL n r))
    | [] => .no
  | _ => .no
def minS : Sem' := primD minD
section
variable {g : Tab} {P : Program} {w : World} {K : PySem.W.Frag} {mg : Str → Option Value} {base : Heap} {k : Nat}
/-- a built-in function by its rule -/
theorem need_prim {x : Str} {id : String} {f : List Fx.D → Fx.R Val} {r : Cx → List V → Hp → VK → Prop} (hwd : g.wd = w) (hm : mg x = none) (hv : bootBuiltins x = some (.builtin id)) (hn : x ≠ "__name__") (hdb : (x == ("__debug__" : Str)) = false) (h0 : f [] = .no)
    (hc : ∀ X : Cx, X.K = K → X.calm = true → X.A.units + 65 < cLine → CallR X (.builtin id) (r X))
    (hr : ∀ (X : Cx) (H0 : Hp) (W : WX) (σ : L2.St) (Q : VK) (F H : Hp) (ds : List Fx.D) (vs : List V), X.K = K → g.wd = X.w → (∀ a o, F a = some o → H a = some o) → RDs X.K g F H ds vs → PostE X.K g H0 W σ Q F H (f ds) → r X vs H Q) :
    NeedP g P w K mg base k (.call x (primD f)) := by
  intro X h1 h2 h3 h4 h5
  subst h1 h2 h3 h4 h5
  refine .inr ⟨h0, fun X' e1 e2 e3 e4 e5 rm cm hu hg xo F0 H0 W es fs p pos tk hs hne ha => ?_⟩
  have q := se_bf (g := g) (xo := xo) (F0 := F0) (H0 := H0) (W := W) (p := p) (pos := pos) (k := f) (hc X' e3 cm hu) hg (by rw [e4]; exact hm) hv hn hdb (fun σ Q F H ds vs s rd po => hr X' H0 W σ Q F H ds vs e3 (by rw [e2]; exact hwd) s rd po) ?_ ha
  · have e : (fun env => (fs env).bind fun vs => primD f (vs.map toArg)) = fun env => (fs env).bind fun vs => f (vs.map Prod.snd) := by
      funext env
      congr 1
      funext vs
      exact primD_arg f vs
    rw [e]
    exact q
  · cases es with
    | nil => exact absurd rfl hne
    | cons e es => exact hne_of hs
theorem need_sorted (hwd : g.wd = w) (hm : mg "sorted" = none) : NeedP g P w K mg base k (.call "sorted" sortedS) := by
  refine need_prim (id := "sorted") (f := sortedD) (r := fun X vs H Q => rSortedD X.K g vs H Q ∨ (g.wd = X.w ∧ rSortedDct X.K g vs H Q)) hwd hm (by decide +kernel) (by decide) (by decide) rfl (fun X _ hc hu => fun pins s σ H vs us Q I r h => ?_) fun X H0 W σ Q F H ds vs _ hwd s rd po => ?_
  · rcases h with h | ⟨hw, h⟩
    · exact cr_sortedD hu pins s σ H vs us Q I r h
    · exact cr_sortedDct hw hc hu pins s σ H vs us Q I r h
  unfold sortedD at po
  split at po
  · obtain ⟨v, rfl, r1⟩ := rd.one
    obtain ⟨q, ws, rfl, hq, rl⟩ := r1.lst s
    split at po
    · rename_i ok
      exact .inl ⟨F, q, _, ws, rfl, s, SqL.of hq, rl, ok, fun p ws' rl' hp => PostE.newL po s rl' p hp⟩
    · exact po.elim
  · obtain ⟨v, rfl, r1⟩ := rd.one
    obtain ⟨a, ep, kvs, vvs, rfl, hh⟩ := r1.has s
    split at po
    · rename_i ok
      exact .inr ⟨hwd, F, a, ep, _, _, kvs, vvs, rfl, s, hh, ok, fun p ws' rl' hp => PostE.newL po s rl' p hp⟩
    · exact po.elim
  · exact po.elim
theorem need_min (hwd : g.wd = w) (hm : mg "min" = none) : NeedP g P w K mg base k (.call "min" minS) := by
  refine need_prim (id := "min") (f := minD) (r := fun X => rMin X.K) hwd hm (by decide +kernel) (by decide) (by decide) rfl (fun X _ hc _ => cr_min hc) fun X H0 W σ Q F H ds vs _ _ s rd po => ?_
  unfold minD at po
  split at po
  · rename_i xs
    obtain ⟨v, rfl, r1⟩ := rd.one
    obtain ⟨q, ws, rfl, hq, rl⟩ := r1.lst s
    cases e : intsOf xs with
    | none => rw [e] at po; exact po.elim
    | some ns =>
      rw [e] at po
      rw [intsOf_rep rl e] at hq
      match ns, po with
      | n :: r, po =>
        have mm := minL_mem r n
        exact ⟨q, n :: r, rfl, SqL.of hq, by simp, fun m hm hle => by
          have : m = minL n r := Int.le_antisymm (hle _ mm.1) (mm.2 _ hm)
          rw [this]
          exact PostE.frz po s (Rep.mkI _)⟩
      | [], po => exact po.elim
  · exact po.elim
theorem need_isiC {x : Str} {C : Nat} (h0 : mg "isinstance" = none) (hm : mg x = some (.ref (g.ca C))) (hc : Cls K (g.ca C)) (h1 : PySem.W.findIn K (.ref (g.ca C)) "__class__" = some (some (.builtin "object.__class__")))
    (h2 : PySem.W.specialIn K (.builtin "object.__class__") "__get__" = some (some (.builtin "getset_descriptor.__get__"))) (h3 : PySem.W.takesIn K (.builtin "object.__class__") = some true) (h4 : PySem.W.mroIn K (g.ca C) (.type "object") = some true) : NeedP g P w K mg base k (.isi (.cls C x)) := by
  intro X e1 e2 e3 e4 e5
  subst e1 e2 e3 e4 e5
  exact ⟨h0, fun z => (by cases z), fun C' x' e => by cases e; exact ⟨hm, hc, h1, h2, h3, h4⟩⟩
theorem need_rsT {x : Str} {C : Nat} (hm : mg x = some (.ref (g.xa C))) (h1 : PySem.W.excIn K (g.xa C) [.type "ValueError", .type "Exception", .type "BaseException", .type "object"] "ValueError.__new__" = true) (h2 : PySem.W.keepIn K (.ref (g.xa C)) = true) (h3 : PySem.W.subIn K (.ref (g.xa C)) (.type "BaseException") = some true) (h4 : PySem.W.typeIn K (.ref (g.xa C)) = some (.type "type")) :
    NeedP g P w K mg base k (.rsT x C) := by
  intro X e1 e2 e3 e4 e5
  subst e1 e2 e3 e4 e5
  exact ⟨hm, h1, h2, h3, h4⟩
theorem need_newK {x : Str} {C n : Nat} {φ : Sem'} {f : Addr} {fd : FuncData} {ps kn : List Str} {j : Nat} (F : FnOk P w K mg base (L2.CX P w) j f fd ps (spInit K g C φ)) (hj : j + 1 ≤ k) (hm : mg x = some (.ref (g.ca C))) (mk : Mk K (g.ca C) f) (hb : KBn K fd ps (n + 1) kn (fun us ws => us ++ ws) (fun vs zs => vs ++ zs)) (ho : ∀ mvs mv, φ mvs = .ok mv → mv.1 = .own) : NeedP g P w K mg base k (.newK x C φ n kn) := by
  intro X e1 e2 e3 e4 e5
  subst e1 e2 e3 e4 e5
  exact ⟨⟨f, fd, ps, j, hj, F, hm, mk, hb⟩, ho⟩
/-- positional values, then the keywords' -/
theorem kbn_of {fd : FuncData} {ps kn : List Str} {n : Nat} (h : ∀ us ws : List Value, us.length = n → ws.length = kn.length → bindArgs fd ⟨us, kn.zip ws⟩ = pure (ps.zip (us ++ ws))) : KBn K fd ps n kn (fun us ws => us ++ ws) (fun vs zs => vs ++ zs) :=
  ⟨fun s us ws _ l1 l2 => BindsTo.of_eq (h us ws l1 l2), fun r1 r2 => r1.append r2⟩
end
end Fx

/-! Reckoning with literals: rules for simp. -/
namespace Fx
section
variable {α β : Type} {env : Env} {i j : Nat} {e a b c : E} {es : List E}
@[simp] theorem bind_ite {p : Prop} [Decidable p] (x y : R α) (f : α → R β) : (if p then x else y).bind f = if p then x.bind f else y.bind f := by split <;> rfl
@[simp] theorem ofR_ite {p : Prop} [Decidable p] (x y : R α) (k : α → Out) : ofR env (if p then x else y) k = if p then ofR env x k else ofR env y k := by split <;> rfl
@[simp] theorem goOn_ite {p : Prop} [Decidable p] (x y : Out) (k : Env → Out) : goOn (if p then x else y) k = if p then goOn x k else goOn y k := by split <;> rfl
@[simp] theorem noEx_ite {p : Prop} [Decidable p] (x y : R α) : noEx (if p then x else y) = if p then noEx x else noEx y := by split <;> rfl
@[simp] theorem noEx_ex (C : Nat) (fs : List D) : noEx (R.ex C fs : R α) = .no := id rfl
/-- a def's answer -/
def retO : Out → R Val
  | .nx _ => .ok (.frz, .non)
  | .rt v => .ok v
  | .ex C fs _ => .ex C fs
  | _ => .no
@[simp] theorem retO_nx : retO (.nx env) = .ok (.frz, .non) := id rfl
@[simp] theorem retO_rt (v : Val) : retO (.rt v) = .ok v := id rfl
@[simp] theorem retO_ex (C : Nat) (fs : List D) : retO (.ex C fs env) = .ex C fs := id rfl
@[simp] theorem retO_no : retO .no = .no := id rfl
@[simp] theorem retO_ite {p : Prop} [Decidable p] (x y : Out) : retO (if p then x else y) = if p then retO x else retO y := by split <;> rfl
theorem runDef_eq {np n : Nat} {body : List S} {vs : List Val} (h : vs.length = np) : runDef np n body vs = retO (execs body (vs.map (fun v => some (toArg v)) ++ List.replicate (n - vs.length) none)) := by
  unfold runDef
  rw [if_pos h]
  cases execs body (vs.map (fun v => some (toArg v)) ++ List.replicate (n - vs.length) none) <;> rfl
/-- an __init__'s answer -/
def retI (C : Nat) : Out → R Val
  | .nx env => (noEx (ownS env 0)).bind fun d => (asIns C d).bind fun fs => .ok (.own, .ins C fs)
  | .ex C fs _ => .ex C fs
  | _ => .no
@[simp] theorem retI_nx (C : Nat) : retI C (.nx env) = (noEx (ownS env 0)).bind fun d => (asIns C d).bind fun fs => .ok (.own, .ins C fs) := id rfl
@[simp] theorem retI_ex (C' C : Nat) (fs : List D) : retI C' (.ex C fs env) = .ex C fs := id rfl
@[simp] theorem retI_ite {p : Prop} [Decidable p] (C : Nat) (x y : Out) : retI C (if p then x else y) = if p then retI C x else retI C y := by split <;> rfl
theorem runInit_eq {C np n : Nat} {body : List S} {vs : List Val} (h : vs.length + 1 = np) : runInit C np n body vs = retI C (execs body (some (.own, .ins C []) :: vs.map (fun v => some (toArg v)) ++ List.replicate (n - (vs.length + 1)) none)) := by
  unfold runInit
  rw [if_pos h]
  cases execs body (some (.own, .ins C []) :: vs.map (fun v => some (toArg v)) ++ List.replicate (n - (vs.length + 1)) none) <;> rfl
@[simp] theorem toArg_frz (d : D) : toArg (.frz, d) = (.frz, d) := id rfl
@[simp] theorem toArg_ownD (d : D) : toArg (.own, d) = (.own, d) := id rfl
@[simp] theorem toArg_bor (d : D) : toArg (.bor, d) = (.bor, d) := id rfl
@[simp] theorem toArg_lnt (d : D) : toArg (.lnt, d) = (.bor, d) := id rfl
@[simp] theorem pas_frz (d : D) : pas (.frz, d) = (.frz, d) := id rfl
@[simp] theorem pas_own (d : D) : pas (.own, d) = (.frz, d) := id rfl
@[simp] theorem pas_bor (d : D) : pas (.bor, d) = (.bor, d) := id rfl
@[simp] theorem pas_lnt (d : D) : pas (.lnt, d) = (.lnt, d) := id rfl
@[simp] theorem esc_frz (d : D) : esc (.frz, d) = .ok d := id rfl
@[simp] theorem esc_own (d : D) : esc (.own, d) = .ok d := id rfl
@[simp] theorem keep_frz (fz : Bool) (d : D) : keep fz (.frz, d) = .ok (.frz, d) := id rfl
@[simp] theorem keep_ownT (d : D) : keep true (.own, d) = .ok (.frz, d) := id rfl
@[simp] theorem keep_ownF (d : D) : keep false (.own, d) = .ok (.own, d) := id rfl
@[simp] theorem noLnt_frz (d : D) : noLnt (.frz, d) = .ok d := id rfl
@[simp] theorem noLnt_bor (d : D) : noLnt (.bor, d) = .ok d := id rfl
@[simp] theorem noLnt_own (d : D) : noLnt (.own, d) = .ok d := id rfl
/-- what a slot's value reads as -/
def rdO : Option (Option Val) → R Val
  | some (some (m, d)) => if isExc d then .no else .ok (if m = .own then .lnt else m, d)
  | _ => .no
theorem getS_eq : getS env i = rdO env[i]? := by
  unfold getS rdO
  cases env[i]? with
  | none => rfl
  | some o => cases o <;> rfl
@[simp] theorem rdO_frz_int (n : Int) : rdO (some (some (.frz, .int n))) = .ok (.frz, .int n) := id rfl
@[simp] theorem rdO_frz_bl (n : Bool) : rdO (some (some (.frz, .bl n))) = .ok (.frz, .bl n) := id rfl
@[simp] theorem rdO_frz_str (n : PySem.Str) : rdO (some (some (.frz, .str n))) = .ok (.frz, .str n) := id rfl
@[simp] theorem rdO_frz_non : rdO (some (some (.frz, .non))) = .ok (.frz, .non) := id rfl
@[simp] theorem rdO_frz_tup (n : List D) : rdO (some (some (.frz, .tup n))) = .ok (.frz, .tup n) := id rfl
@[simp] theorem rdO_frz_lst (n : List D) : rdO (some (some (.frz, .lst n))) = .ok (.frz, .lst n) := id rfl
@[simp] theorem rdO_frz_scr (n : List Int) : rdO (some (some (.frz, .scr n))) = .ok (.frz, .scr n) := id rfl
@[simp] theorem rdO_frz_ins (C : Nat) (n : List D) : rdO (some (some (.frz, .ins C n))) = .ok (.frz, .ins C n) := id rfl
@[simp] theorem rdO_bor_lst (n : List D) : rdO (some (some (.bor, .lst n))) = .ok (.bor, .lst n) := id rfl
@[simp] theorem rdO_bor_ins (C : Nat) (n : List D) : rdO (some (some (.bor, .ins C n))) = .ok (.bor, .ins C n) := id rfl
@[simp] theorem rdO_own_lst (n : List D) : rdO (some (some (.own, .lst n))) = .ok (.lnt, .lst n) := id rfl
@[simp] theorem rdO_own_ins (C : Nat) (n : List D) : rdO (some (some (.own, .ins C n))) = .ok (.lnt, .ins C n) := id rfl
@[simp] theorem noEx_ofOpt (o : Option α) : noEx (R.ofOpt o) = R.ofOpt o := by cases o <;> rfl
end
end Fx

/-! Loops, comprehensions: what they come to. -/
namespace Fx
section
variable {bindf : D → Env → R Env} {body : Env → Out} {fg : List Nat} {items : List D}
theorem for_ind' {P : Nat → Env → Prop} {Q : Out → Prop} :
    ∀ (items : List D) (off : Nat) (env : Env), (∀ i d e, items[i]? = some d → P (off + i) e → ∃ e1, bindf d e = .ok e1 ∧ ((∃ e2, (body e1 = .nx e2 ∨ body e1 = .ct e2) ∧ P (off + i + 1) (wipeE e2 fg)) ∨ (∃ v, body e1 = .rt v ∧ Q (.rt v)) ∨ (∃ e2, body e1 = .bk e2 ∧ Q (.nx e2)) ∨ (∃ C fs e2, body e1 = .ex C fs e2 ∧ Q (.ex C fs e2)))) →
      (∀ e, P (off + items.length) e → Q (.nx e)) → P off env → Q (forLoop bindf body fg items env)
  | [], off, env, _, hd, h0 => by
    simp only [forLoop]
    exact hd env (by simpa using h0)
  | d :: r, off, env, hs, hd, h0 => by
    obtain ⟨e1, hb, h⟩ := hs 0 d env rfl (by simpa using h0)
    simp only [forLoop, hb]
    rcases h with ⟨e2, h, hp⟩ | ⟨v, h, hq⟩ | ⟨e2, h, hq⟩ | ⟨C, fs, e2, h, hq⟩
    · have next : Q (forLoop bindf body fg r (wipeE e2 fg)) := by
        refine for_ind' r (off + 1) (wipeE e2 fg) (fun i d e hi hP => ?_) (fun e he => hd e ?_) (by simpa using hp)
        · have := hs (i + 1) d e (by simpa using hi) (by rw [show off + (i + 1) = off + 1 + i from by omega]; exact hP)
          rw [show off + (i + 1) + 1 = off + 1 + i + 1 from by omega] at this
          exact this
        · rw [List.length_cons, show off + (r.length + 1) = off + 1 + r.length from by omega]
          exact he
      rcases h with h | h <;> (simp only [h]; exact next)
    · simp only [h]; exact hq
    · simp only [h]; exact hq
    · simp only [h]; exact hq
theorem for_ind {P : Nat → Env → Prop} {Q : Out → Prop} {env : Env} (hs : ∀ i d e, items[i]? = some d → P i e → ∃ e1, bindf d e = .ok e1 ∧ ((∃ e2, (body e1 = .nx e2 ∨ body e1 = .ct e2) ∧ P (i + 1) (wipeE e2 fg)) ∨ (∃ v, body e1 = .rt v ∧ Q (.rt v)) ∨ (∃ e2, body e1 = .bk e2 ∧ Q (.nx e2)) ∨ (∃ C fs e2, body e1 = .ex C fs e2 ∧ Q (.ex C fs e2))))
    (hd : ∀ e, P items.length e → Q (.nx e)) (h0 : P 0 env) : Q (forLoop bindf body fg items env) :=
  for_ind' items 0 env (fun i d e hi hP => by simpa using hs i d e hi (by simpa using hP)) (fun e he => hd e (by simpa using he)) h0
/-- a loop that always goes on -/
theorem for_run (st : Nat → Env) (hs : ∀ i d, items[i]? = some d → ∃ e1 e2, bindf d (st i) = .ok e1 ∧ body e1 = .nx e2 ∧ wipeE e2 fg = st (i + 1)) : forLoop bindf body fg items (st 0) = .nx (st items.length) := by
  refine for_ind (P := fun i e => e = st i) (Q := fun o => o = .nx (st items.length)) (fun i d e hi he => ?_) (fun e he => by rw [he]) rfl
  subst he
  obtain ⟨e1, e2, h1, h2, h3⟩ := hs i d hi
  exact ⟨e1, h1, .inl ⟨e2, .inl h2, h3⟩⟩
theorem lc_map {bindf : D → R Env} {test : Env → R Bool} {elt : Env → R D} (tst : D → Bool) (f : D → D) : ∀ (items : List D), (∀ d ∈ items, ∃ e, bindf d = .ok e ∧ test e = .ok (tst d) ∧ (tst d = true → elt e = .ok (f d))) → lcLoop bindf test elt items = .ok ((items.filter tst).map f)
  | [], _ => rfl
  | d :: r, h => by
    obtain ⟨e, h1, h2, h3⟩ := h d (by simp)
    have ih := lc_map tst f r fun d hd => h d (by simp [hd])
    simp only [lcLoop, h1, h2, R.bind_ok]
    cases ht : tst d with
    | true => simp [h3 ht, ih, ht]
    | false => simp [ih, ht]
theorem rngL_get {lo : Int} {n i : Nat} {d : D} (h : (rngL lo n)[i]? = some d) : i < n ∧ d = .int (lo + (i : Int)) := by
  unfold rngL at h
  rw [List.getElem?_map] at h
  by_cases hi : i < n
  · rw [List.getElem?_range hi] at h
    cases h
    exact ⟨hi, rfl⟩
  · rw [List.getElem?_eq_none (by simpa using hi)] at h
    cases h
@[simp] theorem rngL_len {lo : Int} {n : Nat} : (rngL lo n).length = n := by simp [rngL]
theorem rngL_mem {lo : Int} {n : Nat} {d : D} (h : d ∈ rngL lo n) : ∃ i : Nat, i < n ∧ d = .int (lo + (i : Int)) := by
  unfold rngL at h
  obtain ⟨i, hi, rfl⟩ := List.mem_map.mp h
  exact ⟨i, List.mem_range.mp hi, rfl⟩
theorem boolsOf_map {α : Type} (f : α → Bool) : ∀ xs : List α, boolsOf (xs.map fun x => D.bl (f x)) = some (xs.map f)
  | [] => rfl
  | x :: xs => by simp [boolsOf, boolsOf_map f xs]
theorem intsOf_map {α : Type} (f : α → Int) : ∀ xs : List α, intsOf (xs.map fun x => D.int (f x)) = some (xs.map f)
  | [] => rfl
  | x :: xs => by simp [intsOf, intsOf_map f xs]
theorem eqOp_int (a b : Int) : eqOp (.int a) (.int b) = .ok (decide (a = b)) := by
  unfold eqOp
  simp only [D.cmpOk, D.dat, D.dep, D.eqv]
  simp
  rfl
theorem eqOp_str (a b : PySem.Str) : eqOp (.str a) (.str b) = .ok (a == b) := rfl
theorem eqOp_bl (a b : Bool) : eqOp (.bl a) (.bl b) = .ok (a == b) := by
  unfold eqOp
  simp only [D.cmpOk, D.dat, D.dep, D.eqv]
  simp
theorem atIx_nat {α : Type} {xs : List α} {i : Nat} : atIx xs (i : Int) = xs[i]? := by
  unfold atIx
  rw [if_pos (by omega)]
  simp
theorem szn {n : Nat} (h : n ≤ 4096) : (n ≤ sizeL) = True := by
  have : n ≤ sizeL := Nat.le_trans h (by decide)
  simp [this]
theorem szl {n : Nat} (h : n ≤ 4096) : (n < sizeL) = True := by
  have : n < sizeL := Nat.lt_of_le_of_lt h (by decide)
  simp [this]
theorem lim64_t {i : Int} (h1 : -1000000000000 ≤ i) (h2 : i ≤ 1000000000000) : lim64 i = true := by
  have e : (2 : Int) ^ 64 = 18446744073709551616 := by decide
  unfold lim64
  rw [e]
  exact decide_eq_true ⟨by omega, by omega⟩
theorem lim62_t {i : Int} (h1 : -1000000000000 ≤ i) (h2 : i ≤ 1000000000000) : lim62 i = true := by
  have e : (2 : Int) ^ 62 = 4611686018427387904 := by decide
  unfold lim62
  rw [e]
  exact decide_eq_true ⟨by omega, by omega⟩
theorem binI_add (i j : Int) : binI .add i j = .ok (i + j) := rfl
theorem binI_sub (i j : Int) : binI .sub i j = .ok (i - j) := rfl
theorem binI_mul {i j : Int} (h : lim64 i = true ∨ lim64 j = true) : binI .mul i j = .ok (i * j) := if_pos (by simpa using h)
theorem binI_fdiv {i j : Int} (h : 0 < j) (h2 : j < 18446744073709551616) : binI .fdiv i j = .ok (i / j) := if_pos ⟨h, h2⟩
theorem binI_mod {i j : Int} (h : 0 < j) : binI .mod i j = .ok (i % j) := if_pos h
theorem binI_shr {i j : Int} (h : 0 ≤ j) : binI .shr i j = .ok (i / 2 ^ j.toNat) := if_pos h
theorem binI_shl {i j : Int} (h : 0 ≤ j) (h2 : j ≤ 1000000) (h3 : i.natAbs < 2 ^ 64) : binI .shl i j = .ok (i * 2 ^ j.toNat) := if_pos ⟨h, h2, h3⟩
theorem binI_shl1 {j : Int} (h : 0 ≤ j) (h2 : j ≤ 1000000) : binI .shl 1 j = .ok (2 ^ j.toNat) := by
  rw [binI_shl h h2 (by decide), Int.one_mul]
theorem binI_pow {i j : Int} (h : 0 ≤ j) (h2 : j ≤ 1000000) (h3 : i.natAbs < 2 ^ 64) : binI .pow i j = .ok (i ^ j.toNat) := if_pos ⟨h, h2, h3⟩
def big18 : Int := 1000000000000000000
theorem binI_1018 : binI .pow 10 18 = .ok big18 := (binI_pow (by decide) (by decide) (by decide)).trans (by rfl)
theorem binI_and (i j : Int) : binI .and i j = .ok (PySem.Builtin.bitAnd i j) := rfl
theorem binI_or (i j : Int) : binI .or i j = .ok (PySem.Builtin.bitOr i j) := rfl
theorem lc_gen {α : Type} {bindf : D → R Env} {test : Env → R Bool} {elt : Env → R D} (g : α → D) (t : α → Bool) (f : α → D) : ∀ (xs : List α), (∀ x ∈ xs, ∃ e, bindf (g x) = .ok e ∧ test e = .ok (t x) ∧ (t x = true → elt e = .ok (f x))) → lcLoop bindf test elt (xs.map g) = .ok ((xs.filter t).map f)
  | [], _ => rfl
  | x :: r, h => by
    obtain ⟨e, h1, h2, h3⟩ := h x (by simp)
    have ih := lc_gen g t f r fun y hy => h y (by simp [hy])
    simp only [List.map_cons, lcLoop, h1, h2, R.bind_ok]
    cases ht : t x with
    | true => simp [h3 ht, ih, ht]
    | false => simp [ih, ht]
/-- without a test -/
theorem lc_all {α : Type} {bindf : D → R Env} {test : Env → R Bool} {elt : Env → R D} (g : α → D) (f : α → D) (xs : List α) (h : ∀ x ∈ xs, ∃ e, bindf (g x) = .ok e ∧ test e = .ok true ∧ elt e = .ok (f x)) : lcLoop bindf test elt (xs.map g) = .ok (xs.map f) := by
  rw [lc_gen g (fun _ => true) f xs fun x hx => by
    obtain ⟨e, h1, h2, h3⟩ := h x hx
    exact ⟨e, h1, h2, fun _ => h3⟩]
  rw [List.filter_eq_self.mpr fun _ _ => rfl]
theorem rng0 {n : Nat} : rngL 0 n = (List.range n).map fun k : Nat => D.int (k : Int) := by
  unfold rngL
  simp
theorem intsOf_int : ∀ xs : List Int, intsOf (xs.map D.int) = some xs
  | [] => rfl
  | x :: xs => by simp [intsOf, intsOf_int xs]
end
end Fx

/-! The reckoning itself, as rules. -/
namespace Fx
section
variable {env : Env} {i j k C : Nat} {e a b c o : E} {es ifs src lo hi : List E} {x m n : PySem.Str} {φ : Sem'} {op : Bop} {co o1 o2 : Cop} {s : S} {ss sa sb : List S} {t : T} {sk : SK} {fg own : List Nat} {fz : Bool} {d : D}
@[simp] theorem r_var : eval (.var i) env = rdO env[i]? := by simp only [eval, getS_eq]
@[simp] theorem r_cint {n : Int} : eval (.cint n) env = .ok (.frz, .int n) := by simp only [eval]
@[simp] theorem r_cbl {n : Bool} : eval (.cbl n) env = .ok (.frz, .bl n) := by simp only [eval]
@[simp] theorem r_cnon : eval .cnon env = .ok (.frz, .non) := by simp only [eval]
@[simp] theorem r_cstr : eval (.cstr n) env = .ok (.frz, .str n) := by simp only [eval]
@[simp] theorem r_gcon : eval (.gcon x d) env = .ok (.frz, d) := by simp only [eval]
@[simp] theorem r_ccon : eval (.ccon x C m d) env = .ok (.frz, d) := by simp only [eval]
@[simp] theorem r_bin : eval (.bin op a b) env = (eval a env).bind fun x => (eval b env).bind fun y => binop op x.2 y.2 := by simp only [eval]
@[simp] theorem r_neg : eval (.neg a) env = (eval a env).bind fun x => (asInt x.2).bind fun i => .ok (.frz, .int (-i)) := by simp only [eval]
@[simp] theorem r_not : eval (.not a) env = (eval a env).bind fun x => (asB x.2).bind fun b => .ok (.frz, .bl (!b)) := by simp only [eval]
@[simp] theorem r_cmp : eval (.cmp co a b) env = (eval a env).bind fun x => (eval b env).bind fun y => (cmpop co x.2 y.2).bind fun r => .ok (.frz, .bl r) := by simp only [eval]
@[simp] theorem r_chain : eval (.chain o1 o2 a b c) env = (eval a env).bind fun x => (eval b env).bind fun y => (cmpop o1 x.2 y.2).bind fun r => if r then (eval c env).bind fun z => (cmpop o2 y.2 z.2).bind fun r2 => .ok (.frz, .bl r2) else .ok (.frz, .bl false) := by simp only [eval]
@[simp] theorem r_isn : eval (.isn a) env = (eval a env).bind fun x => .ok (.frz, .bl (isNon x.2)) := by simp only [eval]
@[simp] theorem r_isnn : eval (.isnn a) env = (eval a env).bind fun x => .ok (.frz, .bl (!isNon x.2)) := by simp only [eval]
@[simp] theorem r_ands : eval (.ands es) env = evalAnds es env := by simp only [eval]
@[simp] theorem r_ors : eval (.ors es) env = evalOrs es env := by simp only [eval]
@[simp] theorem r_ands1 : evalAnds [e] env = (eval e env).bind fun x => (asB x.2).bind fun b => .ok (.frz, .bl b) := by simp only [evalAnds]
@[simp] theorem r_ands2 : evalAnds (e :: a :: es) env = (eval e env).bind fun x => (asB x.2).bind fun b => if b then evalAnds (a :: es) env else .ok (.frz, .bl false) := by rw [evalAnds]
@[simp] theorem r_ors1 : evalOrs [e] env = (eval e env).bind fun x => (asB x.2).bind fun b => .ok (.frz, .bl b) := by simp only [evalOrs]
@[simp] theorem r_ors2 : evalOrs (e :: a :: es) env = (eval e env).bind fun x => (asB x.2).bind fun b => if b then .ok (.frz, .bl true) else evalOrs (a :: es) env := by rw [evalOrs]
@[simp] theorem r_ife : eval (.ife c a b) env = (eval c env).bind fun x => (asB x.2).bind fun r => if r then eval a env else eval b env := by simp only [eval]
@[simp] theorem r_tup : eval (.tup es) env = (evals es env).bind fun vs => (mapR esc vs).bind fun ds => if ds.length ≤ sizeL then .ok (.frz, .tup ds) else .no := by simp only [eval]
@[simp] theorem r_lst : eval (.lst es) env = (evals es env).bind fun vs => (mapR esc vs).bind fun ds => if ds.length ≤ sizeL then .ok (.own, .lst ds) else .no := by simp only [eval]
@[simp] theorem r_call : eval (.call x φ es) env = (evals es env).bind fun vs => φ (vs.map toArg) := by simp only [eval]
@[simp] theorem r_new : eval (.new x C φ es) env = (evals es env).bind fun vs => φ (vs.map toArg) := by simp only [eval]
@[simp] theorem r_meth : eval (.meth C m φ o es) env = (eval o env).bind fun x => (asIns C x.2).bind fun _ => (evals es env).bind fun vs => φ (toArg (pas x) :: vs.map toArg) := by simp only [eval]
@[simp] theorem r_prop : eval (.prop C m φ o) env = (eval o env).bind fun x => (asIns C x.2).bind fun _ => noEx (φ [toArg (pas x)]) := by simp only [eval]
@[simp] theorem r_fld : eval (.fld C j m o) env = (eval o env).bind fun x => (asIns C x.2).bind fun fs => (R.ofOpt fs[j]?).bind fun d => .ok (.frz, d) := by simp only [eval]
@[simp] theorem r_bi {b : Bi} : eval (.bi b es) env = (evals es env).bind fun vs => biOp b (vs.map Prod.snd) := by simp only [eval]
@[simp] theorem r_isi {t : Ty} : eval (.isi o t) env = (eval o env).bind fun x => (R.ofOpt (ofTy x.2 t)).bind fun b => .ok (.frz, .bl b) := by simp only [eval]
@[simp] theorem r_xfld {tab : List (Nat × Nat)} : eval (.xfld i n tab) env = (getX env i).bind fun x => (R.ofOpt (tab.lookup x.1)).bind fun j => (R.ofOpt x.2[j]?).bind fun d => .ok (.frz, d) := by simp only [eval]
@[simp] theorem r_xis {tab : List (Nat × Bool)} : eval (.xis i x C tab) env = (getX env i).bind fun x => (R.ofOpt (tab.lookup x.1)).bind fun b => .ok (.frz, .bl b) := by simp only [eval]
@[simp] theorem r_ix : eval (.ix o e) env = (eval o env).bind fun x => (eval e env).bind fun y => (ixOp x.2 y.2).bind fun d => .ok (.frz, d) := by simp only [eval]
@[simp] theorem r_slc : eval (.slc o lo hi) env = (eval o env).bind fun x => (evalOpt lo env).bind fun l => (evalOpt hi env).bind fun h => sliceOp x.2 l h := by simp only [eval]
@[simp] theorem r_lc : eval (.lc e t sk src ifs own) env = (evals src env).bind fun vs => (srcItems sk (vs.map Prod.snd)).bind fun items =>
      (lcLoop (fun d => bindT t d (wipeE env own)) (fun e => noEx (evalIfs ifs e)) (fun e' => noEx ((eval e e').bind fun v => esc v)) items).bind fun ds => if ds.length ≤ sizeL then .ok (.own, .lst ds) else .no := by simp only [eval]
@[simp] theorem r_es0 : evals [] env = .ok [] := by simp only [evals]
@[simp] theorem r_es : evals (e :: es) env = (eval e env).bind fun v => (evals es env).bind fun vs => .ok (pas v :: vs) := by simp only [evals]
@[simp] theorem r_op0 : evalOpt [] env = .ok none := by simp only [evalOpt]
@[simp] theorem r_op1 : evalOpt (e :: es) env = (eval e env).bind fun x => (asInt x.2).bind fun i => .ok (some i) := by simp only [evalOpt]
@[simp] theorem r_if0 : evalIfs [] env = .ok true := by simp only [evalIfs]
@[simp] theorem r_if1 : evalIfs [e] env = (eval e env).bind fun x => (asB x.2).bind fun b => .ok b := by simp only [evalIfs]
@[simp] theorem r_binop {i j : Int} : binop op (.int i) (.int j) = (binI op i j).bind fun k => .ok (.frz, .int k) := id rfl
@[simp] theorem r_add {i j : Int} : binI .add i j = .ok (i + j) := id rfl
@[simp] theorem r_sub {i j : Int} : binI .sub i j = .ok (i - j) := id rfl
@[simp] theorem r_and {i j : Int} : binI .and i j = .ok (PySem.Builtin.bitAnd i j) := id rfl
@[simp] theorem r_or {i j : Int} : binI .or i j = .ok (PySem.Builtin.bitOr i j) := id rfl
@[simp] theorem r_lt {i j : Int} : cmpop .lt (.int i) (.int j) = .ok (decide (i < j)) := id rfl
@[simp] theorem r_le {i j : Int} : cmpop .le (.int i) (.int j) = .ok (decide (i ≤ j)) := id rfl
@[simp] theorem r_gt {i j : Int} : cmpop .gt (.int i) (.int j) = .ok (decide (j < i)) := id rfl
@[simp] theorem r_ge {i j : Int} : cmpop .ge (.int i) (.int j) = .ok (decide (j ≤ i)) := id rfl
@[simp] theorem r_eqI {i j : Int} : cmpop .eq (.int i) (.int j) = .ok (decide (i = j)) := eqOp_int i j
@[simp] theorem r_neI {i j : Int} : cmpop .ne (.int i) (.int j) = .ok (!decide (i = j)) := by
  have e : cmpop .ne (.int i) (.int j) = (eqOp (.int i) (.int j)).bind fun b => R.ok (!b) := rfl
  rw [e, eqOp_int]; rfl
@[simp] theorem r_eqS : cmpop .eq (.str m) (.str n) = .ok (m == n) := id rfl
@[simp] theorem r_neS : cmpop .ne (.str m) (.str n) = .ok (!(m == n)) := id rfl
@[simp] theorem r_asI {fs : List D} : asIns C (.ins C fs) = .ok fs := by simp [asIns]
@[simp] theorem r_non : isNon .non = true := id rfl
@[simp] theorem r_nonI {i : Int} : isNon (.int i) = false := id rfl
@[simp] theorem r_nonS : isNon (.str m) = false := id rfl
@[simp] theorem r_nonT {ds : List D} : isNon (.tup ds) = false := id rfl
@[simp] theorem r_nonL {ds : List D} : isNon (.lst ds) = false := id rfl
@[simp] theorem r_len {ds : List D} : biOp .len [.lst ds] = if ds.length ≤ sizeL then .ok (.frz, .int ds.length) else .no := id rfl
@[simp] theorem r_lenT {ds : List D} : biOp .len [.tup ds] = if ds.length ≤ sizeL then .ok (.frz, .int ds.length) else .no := id rfl
@[simp] theorem r_lenS {ds : List Int} : biOp .len [.scr ds] = if ds.length ≤ sizeL then .ok (.frz, .int ds.length) else .no := id rfl
@[simp] theorem r_abs {i : Int} : biOp .abs [.int i] = .ok (.frz, .int (if i < 0 then -i else i)) := id rfl
@[simp] theorem r_int {i : Int} : biOp .int [.int i] = .ok (.frz, .int i) := id rfl
@[simp] theorem r_all {ds : List D} : biOp .all [.lst ds] = (R.ofOpt (boolsOf ds)).bind fun bs => .ok (.frz, .bl (bs.all id)) := id rfl
@[simp] theorem r_sum {ds : List D} : biOp .sum [.lst ds] = (R.ofOpt (intsOf ds)).bind fun ns => .ok (.frz, .int ns.sum) := id rfl
@[simp] theorem r_tuple {ds : List D} : biOp .tuple [.lst ds] = .ok (.frz, .tup ds) := id rfl
@[simp] theorem r_tupleT {ds : List D} : biOp .tuple [.tup ds] = .ok (.frz, .tup ds) := id rfl
@[simp] theorem r_list {ds : List D} : biOp .list [.lst ds] = .ok (.own, .lst ds) := id rfl
@[simp] theorem r_listT {ds : List D} : biOp .list [.tup ds] = .ok (.own, .lst ds) := id rfl
@[simp] theorem r_max {i j : Int} : biOp .max [.int i, .int j] = .ok (.frz, .int (if j > i then j else i)) := id rfl
@[simp] theorem r_ixL {ds : List D} {i : Int} : ixOp (.lst ds) (.int i) = R.ofOpt (atIx ds i) := by
  show (match atIx ds i with | some d => R.ok d | none => R.no) = _
  cases atIx ds i <;> rfl
@[simp] theorem r_ixT {ds : List D} {i : Int} : ixOp (.tup ds) (.int i) = R.ofOpt (atIx ds i) := by
  show (match atIx ds i with | some d => R.ok d | none => R.no) = _
  cases atIx ds i <;> rfl
@[simp] theorem r_ixS {ds : List Int} {i : Int} : ixOp (.scr ds) (.int i) = R.ofOpt ((atIx ds i).map D.int) := by
  show (match atIx ds i with | some n => R.ok (D.int n) | none => R.no) = _
  cases atIx ds i <;> rfl
@[simp] theorem r_seqL {ds : List D} : srcItems .seq [.lst ds] = .ok ds := id rfl
@[simp] theorem r_seqT {ds : List D} : srcItems .seq [.tup ds] = .ok ds := id rfl
@[simp] theorem r_enL {ds : List D} : srcItems .enum [.lst ds] = .ok (enumL ds) := id rfl
@[simp] theorem r_enT {ds : List D} : srcItems .enum [.tup ds] = .ok (enumL ds) := id rfl
@[simp] theorem r_rng {i : Int} : srcItems .range [.int i] = if lim62 i then .ok (rngL 0 i.toNat) else .no := id rfl
@[simp] theorem r_rng2 {i j : Int} : srcItems .range [.int i, .int j] = if lim62 i && lim62 j then .ok (rngL i (j - i).toNat) else .no := id rfl
@[simp] theorem r_m0 {α β : Type} {f : α → R β} : mapR f [] = .ok [] := id rfl
@[simp] theorem r_m1 {α β : Type} {f : α → R β} {a : α} {r : List α} : mapR f (a :: r) = (f a).bind fun b => (mapR f r).bind fun bs => .ok (b :: bs) := id rfl
@[simp] theorem r_bT {i : Nat} {d : D} : bindT (.nm i) d env = .ok (setS env i (.frz, d)) := by simp only [bindT]
@[simp] theorem r_bTp {ts : List T} {ds : List D} : bindT (.tp ts) (.tup ds) env = bindTs ts ds env := by simp only [bindT]
@[simp] theorem r_bT0 : bindTs [] [] env = .ok env := by simp only [bindTs]
@[simp] theorem r_bT1 {ts : List T} {ds : List D} : bindTs (t :: ts) (d :: ds) env = (bindT t d env).bind fun e1 => bindTs ts ds e1 := by simp only [bindTs]
@[simp] theorem r_set {e : E} : exec (.set i fz e) env = ofR env ((eval e env).bind (keep fz)) fun v => .nx (setS env i v) := by simp only [exec]
@[simp] theorem r_setT {e : E} : exec (.setT t e) env = ofR env ((eval e env).bind esc) fun d => ofR env (noEx (bindT t d env)) fun env1 => .nx env1 := by simp only [exec]
@[simp] theorem r_setI {e : E} : exec (.setI i a e) env = ofR env ((eval e env).bind esc) fun d => ofR env (noEx (ownS env i)) fun o => ofR env (eval a env) fun kv => ofR env (noEx (setItemD o kv.2 d)) fun o' => .nx (setS env i (.own, o')) := by simp only [exec]
@[simp] theorem r_setF {e : E} : exec (.setF i C j m e) env = ofR env ((eval e env).bind esc) fun d => ofR env (noEx (ownS env i)) fun o => ofR env (noEx (asIns C o)) fun fs => ofR env (R.ofOpt (putField fs j d)) fun fs' => .nx (setS env i (.own, .ins C fs')) := by simp only [exec]
@[simp] theorem r_app {e : E} : exec (.app i e) env = ofR env (ownL env i) fun xs => ofR env ((eval e env).bind esc) fun d => if xs.length < sizeL then .nx (setS env i (.own, .lst (xs ++ [d]))) else .no := by simp only [exec]
@[simp] theorem r_ex {e : E} : exec (.ex e) env = ofR env (eval e env) fun _ => .nx env := by simp only [exec]
@[simp] theorem r_iff : exec (.iff c sa sb) env = ofR env ((eval c env).bind fun x => asB x.2) fun r => if r then execs sa env else execs sb env := by simp only [exec]
@[simp] theorem r_for {body : List S} : exec (.for_ t sk src body fg) env = ofR env ((evals src env).bind fun vs => (mapR noLnt vs).bind fun ds => srcItems sk ds) fun items => forLoop (fun d env => bindT t d env) (fun env => execs body env) fg items (wipeE env fg) := by simp only [exec]
@[simp] theorem r_ret {e : E} : exec (.ret e) env = ofR env (eval e env) fun v => if v.1 = .bor ∨ v.1 = .lnt then .no else .rt v := by simp only [exec]
/-- an own thing is handed out -/
def rvO : Option (Option Val) → Out
  | some (some (.own, d)) => .rt (.own, d)
  | _ => .no
@[simp] theorem rvO_own {d : D} : rvO (some (some (.own, d))) = .rt (.own, d) := id rfl
@[simp] theorem r_retV : exec (.retV i) env = rvO env[i]? := by
  simp only [exec]
  unfold rvO
  cases env[i]? with
  | none => rfl
  | some o => cases o with
    | none => rfl
    | some mv => obtain ⟨m, d⟩ := mv; cases m <;> rfl
@[simp] theorem r_retN : exec .retN env = .rt (.frz, .non) := by simp only [exec]
@[simp] theorem r_rse {es : List E} : exec (.rse x C es) env = ofR env ((evals es env).bind fun vs => mapR esc vs) fun ds => .ex C ds env := by simp only [exec]
@[simp] theorem r_tryA {body suite : List S} {tab : List (Nat × Bool)} : exec (.tryA body x C tab i suite) env = catchO tab (execs body env) fun C fs env1 => goneO i (execs suite (setS env1 i (.frz, .exc C fs))) := by simp only [exec]
@[simp] theorem r_x0 : execs [] env = .nx env := by simp only [execs]
@[simp] theorem r_x : execs (s :: ss) env = goOn (exec s env) fun env1 => execs ss env1 := by simp only [execs]
@[simp] theorem r_w0 : wipeE env [] = env := id rfl
@[simp] theorem r_w1 {v : Nat} {vs : List Nat} : wipeE env (v :: vs) = (wipeE env vs).set v none := id rfl
@[simp] theorem r_sS {v : Val} : setS env i v = env.set i (some v) := id rfl
/-- own slots -/
def owO : Option (Option Val) → R D
  | some (some (.own, d)) => .ok d
  | _ => .no
theorem ownS_eq : ownS env i = owO env[i]? := by
  unfold ownS owO
  cases env[i]? with
  | none => rfl
  | some o => cases o with
    | none => rfl
    | some mv => obtain ⟨m, d⟩ := mv; cases m <;> rfl
theorem ownL_eq : ownL env i = (owO env[i]?).bind asLst := by
  unfold ownL owO
  cases env[i]? with
  | none => rfl
  | some o => cases o with
    | none => rfl
    | some mv => obtain ⟨m, d⟩ := mv; cases m <;> cases d <;> rfl
@[simp] theorem owO_own {d : D} : owO (some (some (.own, d))) = .ok d := id rfl
@[simp] theorem rd_if1 {d : D} : (if Mode.frz = Mode.bor ∨ Mode.frz = Mode.lnt then Out.no else .rt (.frz, d)) = .rt (.frz, d) := if_neg (by simp)
@[simp] theorem rd_if2 {d : D} : (if Mode.own = Mode.bor ∨ Mode.own = Mode.lnt then Out.no else .rt (.own, d)) = .rt (.own, d) := if_neg (by simp)
theorem e1018 : eval (.bin .pow (.cint 10) (.cint 18)) env = .ok (.frz, .int big18) := by
  rw [r_bin, r_cint, r_cint, R.bind_ok, R.bind_ok, r_binop, binI_1018, R.bind_ok]
end
end Fx

namespace Law
open Fx
def N__law_cell : List PySem.Str := ["script", "k"]
noncomputable def b__law_cell : List S :=
  [.iff (.cmp .lt (.var 1) (.bi .len [(.var 0)])) [.ret (.bi .abs [(.bi .int [(.ix (.var 0) (.var 1))])])] [],
    .ret (.cint 0)]
noncomputable def _law_cell : Sem' := runDef 2 2 b__law_cell
def N__law_numbers : List PySem.Str := ["script", "at", "count", "radix", "cell", "numbers", "left", "k", "mixed"]
noncomputable def lp__law_numbers_1 : List S :=
  [.iff (.cmp .gt (.var 6) (.cint 0)) [.app 5 (.bin .mod (.bi .int [(.var 6)]) (.var 3)),
    .set 6 true (.bin .fdiv (.var 6) (.var 3))] [.set 8 true (.bin .mod (.bi .int [(.bin .mul (.bin .add (.bin .add (.bin .mod (.var 4) (.cint 999983)) (.bin .mul (.cint 37) (.var 1))) (.cint 1)) (.bin .add (.bin .add (.bin .mul (.cint 7919) (.var 7)) (.bin .mul (.cint 611) (.var 1))) (.cint 104729)))]) (.cint 1000003)),
    .app 5 (.bin .mod (.bin .mod (.bi .int [(.bin .mul (.var 8) (.bin .add (.var 8) (.cint 31)))]) (.cint 1000033)) (.var 3))]]
noncomputable def b__law_numbers : List S :=
  [.set 4 true (.call "_law_cell" _law_cell [(.var 0), (.var 1)]),
    .set 5 false (.lst []),
    .set 6 true (.var 4),
    .iff (.cmp .lt (.var 6) (.bin .pow (.cint 10) (.cint 18))) [.set 6 true (.cint 0)] [],
    .for_ (.nm 7) .range [(.var 2)] (lp__law_numbers_1) [7, 8],
    .retV 5]
noncomputable def _law_numbers : Sem' := runDef 4 9 b__law_numbers
def N__law_prop : List PySem.Str := ["n", "number", "first", "second", "top", "letter", "holds", "kind", "world"]
noncomputable def b__law_prop : List S :=
  [.set 4 true (.bin .sub (.bin .shl (.cint 1) (.bin .shl (.cint 1) (.var 0))) (.cint 1)),
    .set 5 true (.bin .mod (.bin .fdiv (.var 1) (.cint 12)) (.var 0)),
    .set 6 true (.bi .sum [(.lc (.bin .shl (.cint 1) (.var 8)) (.nm 8) .range [(.bin .shl (.cint 1) (.var 0))] [(.cmp .eq (.bin .and (.bin .shr (.var 8) (.var 5)) (.cint 1)) (.cint 1))] [8])]),
    .set 7 true (.bin .mod (.var 1) (.cint 12)),
    .iff (.cmp .lt (.var 7) (.cint 4)) [.ret (.var 6)] [],
    .iff (.cmp .lt (.var 7) (.cint 7)) [.ret (.bin .sub (.var 4) (.var 6))] [],
    .iff (.cmp .eq (.var 7) (.cint 7)) [.ret (.bin .or (.var 6) (.var 3))] [],
    .iff (.cmp .eq (.var 7) (.cint 8)) [.ret (.bin .or (.bin .sub (.var 4) (.var 6)) (.var 3))] [],
    .iff (.cmp .eq (.var 7) (.cint 9)) [.ret (.bin .or (.var 2) (.var 3))] [],
    .iff (.cmp .eq (.var 7) (.cint 10)) [.ret (.var 2)] [],
    .ret (.var 4)]
noncomputable def _law_prop : Sem' := runDef 4 9 b__law_prop
def N__law_timed : List PySem.Str := ["script", "at", "n", "count", "most", "term", "shapes", "props", "rules", "k", "row", "drawn", "heads", "j", "kind", "parts"]
noncomputable def lp__law_timed_1 : List S :=
  [.app 12 (.tup [(.call "_law_prop" _law_prop [(.var 2), (.ix (.var 10) (.bin .add (.cint 2) (.var 13))), (.ix (.var 11) (.var 13)), (.ix (.var 11) (.bin .add (.var 13) (.cint 3)))]), (.bin .mod (.ix (.var 10) (.bin .add (.cint 5) (.var 13))) (.bin .add (.var 5) (.cint 1)))])]
noncomputable def lp__law_timed_2 : List S :=
  [.set 10 true (.slc (.var 6) [(.bin .mul (.cint 8) (.var 9))] [(.bin .add (.bin .mul (.cint 8) (.var 9)) (.cint 8))]),
    .set 11 true (.slc (.var 7) [(.bin .mul (.cint 6) (.var 9))] [(.bin .add (.bin .mul (.cint 6) (.var 9)) (.cint 6))]),
    .set 12 false (.lst []),
    .for_ (.nm 13) .range [(.cint 3)] (lp__law_timed_1) [13],
    .set 14 true (.ix (.lst [(.cstr "soon"), (.cstr "again"), (.cstr "till"), (.cstr "soon")]) (.bin .mod (.ix (.var 10) (.cint 0)) (.cint 4))),
    .set 15 true (.slc (.var 12) [] [(.cint 1)]),
    .iff (.cmp .eq (.var 14) (.cstr "soon")) [.set 15 true (.slc (.var 12) [] [(.bin .add (.cint 1) (.bin .mod (.bin .fdiv (.ix (.var 10) (.cint 0)) (.cint 4)) (.var 4)))])] [],
    .iff (.cmp .eq (.var 14) (.cstr "till")) [.set 15 true (.lst [(.tup [(.ix (.ix (.var 12) (.cint 0)) (.cint 0)), (.call "_law_prop" _law_prop [(.var 2), (.ix (.var 10) (.cint 7)), (.ix (.var 11) (.cint 1)), (.ix (.var 11) (.cint 2))])])])] [],
    .app 8 (.tup [(.var 14), (.call "_law_prop" _law_prop [(.var 2), (.ix (.var 10) (.cint 1)), (.ix (.var 11) (.cint 2)), (.ix (.var 11) (.cint 4))]), (.var 15)])]
noncomputable def b__law_timed : List S :=
  [.set 6 true (.call "_law_numbers" _law_numbers [(.var 0), (.var 1), (.bin .mul (.cint 8) (.var 3)), (.cint 840)]),
    .set 7 true (.call "_law_numbers" _law_numbers [(.var 0), (.bin .add (.var 1) (.cint 1)), (.bin .mul (.cint 6) (.var 3)), (.bin .shl (.cint 1) (.bin .shl (.cint 1) (.var 2)))]),
    .set 8 false (.lst []),
    .for_ (.nm 9) .range [(.var 3)] (lp__law_timed_2) [9, 10, 11, 12, 13, 14, 15],
    .retV 8]
noncomputable def _law_timed : Sem' := runDef 6 16 b__law_timed
def N__law_can : List PySem.Str := ["script", "at", "n", "top", "drawn", "kind"]
noncomputable def b__law_can : List S :=
  [.set 3 true (.bin .shl (.cint 1) (.bin .shl (.cint 1) (.var 2))),
    .set 4 true (.call "_law_numbers" _law_numbers [(.var 0), (.var 1), (.cint 2), (.var 3)]),
    .set 5 true (.bin .mod (.call "_law_cell" _law_cell [(.var 0), (.var 1)]) (.cint 4)),
    .iff (.cmp .lt (.var 5) (.cint 2)) [.ret (.bin .sub (.var 3) (.cint 1))] [],
    .iff (.cmp .eq (.var 5) (.cint 2)) [.ret (.bin .or (.bin .or (.ix (.var 4) (.cint 0)) (.ix (.var 4) (.cint 1))) (.cint 1))] [],
    .ret (.bin .or (.ix (.var 4) (.cint 0)) (.bin .shl (.cint 1) (.bin .sub (.bin .shl (.cint 1) (.var 2)) (.cint 1))))]
noncomputable def _law_can : Sem' := runDef 3 6 b__law_can
def N_Timed_longest : List PySem.Str := ["self", "_", "term"]
noncomputable def b_Timed_longest : List S :=
  [.iff (.cmp .eq (.fld 2 1 "kind" (.var 0)) (.cstr "till")) [.ret (.cint 1)] [],
    .ret (.bi .sum [(.lc (.bin .add (.var 2) (.cint 1)) (.tp [(.nm 1), (.nm 2)]) .seq [(.fld 2 3 "parts" (.var 0))] [] [1, 2])])]
noncomputable def Timed_longest : Sem' := runDef 1 3 b_Timed_longest
def N_everything : List PySem.Str := ["n"]
noncomputable def b_everything : List S :=
  [.ret (.bin .sub (.bin .shl (.cint 1) (.bin .shl (.cint 1) (.var 0))) (.cint 1))]
noncomputable def everything : Sem' := runDef 1 1 b_everything
def N_Regime___init__ : List PySem.Str := ["self", "n", "rules", "can", "many", "rule"]
noncomputable def lp_Regime___init___1 : List S :=
  [.iff (.cmp .ne (.fld 2 0 "n" (.var 5)) (.var 1)) [.rsT "UnlikeLetters" 4 "different numbers of letters"] [],
    .set 4 true (.bin .mul (.var 4) (.bin .add (.prop 2 "longest" Timed_longest (.var 5)) (.cint 1)))]
noncomputable def b_Regime___init__ : List S :=
  [.iff (.not (.chain .le .le (.cint 1) (.var 1) (.ccon "Book" 0 "MOST_LETTERS" (.int 4)))) [.rse "BadCount" 1 [(.var 1)]] [],
    .iff (.cmp .gt (.bi .len [(.var 2)]) (.gcon "RULE_LIMIT" (.int 6))) [.rse "TooMany" 2 [(.gcon "RULE_LIMIT" (.int 6))]] [],
    .set 4 true (.cint 1),
    .for_ (.nm 5) .seq [(.var 2)] (lp_Regime___init___1) [5],
    .iff (.cmp .gt (.var 4) (.gcon "STANDING_LIMIT" (.int 400))) [.rse "TooMany" 2 [(.gcon "STANDING_LIMIT" (.int 400))]] [],
    .iff (.cmp .eq (.var 3) (.cint 0)) [.rsT "NoFacts" 5 "no world can come"] [],
    .setF 0 1 0 "n" (.var 1),
    .setF 0 1 1 "rules" (.bi .tuple [(.var 2)]),
    .setF 0 1 2 "can" (.ife (.isn (.var 3)) (.call "everything" everything [(.var 1)]) (.var 3))]
noncomputable def Regime___init__ : Sem' := runInit 1 4 6 b_Regime___init__
def N_is_prop : List PySem.Str := ["n", "prop"]
noncomputable def b_is_prop : List S :=
  [.ret (.chain .le .le (.cint 0) (.var 1) (.call "everything" everything [(.var 0)]))]
noncomputable def is_prop : Sem' := runDef 2 2 b_is_prop
def N_is_part : List PySem.Str := ["n", "kind", "part", "head", "more"]
noncomputable def b_is_part : List S :=
  [.setT (.tp [(.nm 3), (.nm 4)]) (.var 2),
    .iff (.not (.call "is_prop" is_prop [(.var 0), (.var 3)])) [.ret (.cbl false)] [],
    .iff (.cmp .eq (.var 1) (.cstr "till")) [.ret (.call "is_prop" is_prop [(.var 0), (.var 4)])] [],
    .ret (.chain .le .le (.cint 0) (.var 4) (.gcon "LAST_TERM" (.int 6)))]
noncomputable def is_part : Sem' := runDef 3 5 b_is_part
def N_Timed___init__ : List PySem.Str := ["self", "n", "kind", "body", "parts", "most", "place", "part", "head", "more"]
noncomputable def lp_Timed___init___1 : List S :=
  [.iff (.not (.call "is_part" is_part [(.var 1), (.var 2), (.var 7)])) [.rse "BadTimed" 7 [(.bin .add (.var 6) (.cint 1))]] []]
noncomputable def b_Timed___init__ : List S :=
  [.iff (.not (.chain .le .le (.cint 1) (.var 1) (.ccon "Book" 0 "MOST_LETTERS" (.int 4)))) [.rse "BadCount" 1 [(.var 1)]] [],
    .iff (.cmp .nin (.var 2) (.gcon "KINDS" (.tup [(.str "soon"), (.str "again"), (.str "till")]))) [.rse "BadKind" 6 [(.var 2)]] [],
    .set 5 true (.ife (.cmp .eq (.var 2) (.cstr "soon")) (.gcon "PART_LIMIT" (.int 3)) (.cint 1)),
    .iff (.not (.chain .le .le (.cint 1) (.bi .len [(.var 4)]) (.var 5))) [.rse "BadCount" 1 [(.bi .len [(.var 4)])]] [],
    .iff (.not (.call "is_prop" is_prop [(.var 1), (.var 3)])) [.rse "BadTimed" 7 [(.cint 0)]] [],
    .for_ (.tp [(.nm 6), (.nm 7)]) .enum [(.var 4)] (lp_Timed___init___1) [6, 7],
    .setF 0 2 0 "n" (.var 1),
    .setF 0 2 1 "kind" (.var 2),
    .setF 0 2 2 "body" (.var 3),
    .setF 0 2 3 "parts" (.bi .tuple [(.lc (.tup [(.var 8), (.var 9)]) (.tp [(.nm 8), (.nm 9)]) .seq [(.var 4)] [] [8, 9])])]
noncomputable def Timed___init__ : Sem' := runInit 2 5 10 b_Timed___init__
def N__law_holds : List PySem.Str := ["prop", "world"]
noncomputable def b__law_holds : List S :=
  [.ret (.cmp .eq (.bin .and (.bin .shr (.var 0) (.var 1)) (.cint 1)) (.cint 1))]
noncomputable def _law_holds : Sem' := runDef 2 2 b__law_holds
def N__law_total : List PySem.Str := ["rule", "part"]
noncomputable def b__law_total : List S :=
  [.iff (.cmp .eq (.ix (.var 0) (.cint 0)) (.cstr "till")) [.ret (.cint 1)] [],
    .ret (.bi .sum [(.lc (.bin .add (.ix (.var 1) (.cint 1)) (.cint 1)) (.nm 1) .seq [(.ix (.var 0) (.cint 2))] [] [1])])]
noncomputable def _law_total : Sem' := runDef 1 2 b__law_total
def N__law_left : List PySem.Str := ["rule", "since", "j", "world", "parts", "first", "part"]
noncomputable def lp__law_left_1 : List S :=
  [.iff (.ands [(.chain .le .le (.var 5) (.var 2) (.bin .add (.var 5) (.ix (.var 6) (.cint 1)))), (.call "_law_holds" _law_holds [(.ix (.var 6) (.cint 0)), (.var 3)])]) [.ret (.cint 0)] [],
    .set 5 true (.bin .add (.bin .add (.var 5) (.ix (.var 6) (.cint 1))) (.cint 1))]
noncomputable def b__law_left : List S :=
  [.set 4 true (.ix (.var 0) (.cint 2)),
    .iff (.cmp .eq (.ix (.var 0) (.cint 0)) (.cstr "till")) [.iff (.call "_law_holds" _law_holds [(.ix (.ix (.var 4) (.cint 0)) (.cint 1)), (.var 3)]) [.ret (.cint 0)] [],
    .iff (.call "_law_holds" _law_holds [(.ix (.ix (.var 4) (.cint 0)) (.cint 0)), (.var 3)]) [.ret (.cint 1)] [],
    .ret .cnon] [],
    .iff (.cmp .eq (.ix (.var 0) (.cint 0)) (.cstr "again")) [.iff (.call "_law_holds" _law_holds [(.ix (.ix (.var 4) (.cint 0)) (.cint 0)), (.var 3)]) [.ret (.bin .add (.ix (.ix (.var 4) (.cint 0)) (.cint 1)) (.cint 1))] [],
    .iff (.cmp .eq (.var 2) (.bin .add (.var 1) (.ix (.ix (.var 4) (.cint 0)) (.cint 1)))) [.ret .cnon] [],
    .ret (.bin .sub (.bin .add (.var 1) (.ix (.ix (.var 4) (.cint 0)) (.cint 1))) (.var 2))] [],
    .set 5 true (.var 1),
    .for_ (.nm 6) .seq [(.var 4)] (lp__law_left_1) [6],
    .iff (.cmp .eq (.var 2) (.bin .sub (.var 5) (.cint 1))) [.ret .cnon] [],
    .ret (.bin .sub (.bin .sub (.var 5) (.cint 1)) (.var 2))]
noncomputable def _law_left : Sem' := runDef 4 7 b__law_left
def N__law_move : List PySem.Str := ["rule", "left", "world", "j"]
noncomputable def b__law_move : List S :=
  [.iff (.ands [(.cmp .eq (.var 1) (.cint 0)), (.not (.call "_law_holds" _law_holds [(.ix (.var 0) (.cint 1)), (.var 2)]))]) [.ret (.cint 0)] [],
    .set 3 true (.cint 0),
    .iff (.cmp .gt (.var 1) (.cint 0)) [.set 3 true (.bin .sub (.call "_law_total" _law_total [(.var 0)]) (.var 1))] [],
    .ret (.call "_law_left" _law_left [(.var 0), (.cint 0), (.var 3), (.var 2)])]
noncomputable def _law_move : Sem' := runDef 3 4 b__law_move
def N__law_step : List PySem.Str := ["rules", "standing", "world", "after", "k", "left"]
noncomputable def b__law_step : List S :=
  [.set 3 true (.lc (.call "_law_move" _law_move [(.ix (.var 0) (.var 4)), (.ix (.var 1) (.var 4)), (.var 2)]) (.nm 4) .range [(.bi .len [(.var 0)])] [] [4]),
    .iff (.bi .any [(.lc (.isn (.var 5)) (.nm 5) .seq [(.var 3)] [] [5])]) [.ret .cnon] [],
    .ret (.bi .tuple [(.var 3)])]
noncomputable def _law_step : Sem' := runDef 3 6 b__law_step
def N__law_worlds : List PySem.Str := ["prop", "world"]
noncomputable def b__law_worlds : List S :=
  [.ret (.lc (.var 1) (.nm 1) .range [(.cint 16)] [(.cmp .eq (.bin .and (.bin .shr (.var 0) (.var 1)) (.cint 1)) (.cint 1))] [1])]
noncomputable def _law_worlds : Sem' := runDef 1 2 b__law_worlds
def N__law_run : List PySem.Str := ["script", "at", "n", "count", "can", "worlds", "number"]
noncomputable def b__law_run : List S :=
  [.set 5 true (.call "_law_worlds" _law_worlds [(.var 4)]),
    .ret (.bi .tuple [(.lc (.ix (.var 5) (.bin .mod (.var 6) (.bi .len [(.var 5)]))) (.nm 6) .seq [(.call "_law_numbers" _law_numbers [(.var 0), (.var 1), (.var 3), (.cint 5040)])] [] [6])])]
noncomputable def _law_run : Sem' := runDef 5 7 b__law_run
def N__law_history : List PySem.Str := ["rule", "run", "since", "told", "j", "left"]
noncomputable def lp__law_history_1 : List S :=
  [.iff (.ands [(.isn (.var 2)), (.call "_law_holds" _law_holds [(.ix (.var 0) (.cint 1)), (.ix (.var 1) (.var 4))])]) [.set 2 true (.var 4)] [],
    .set 5 true (.cint 0),
    .iff (.isnn (.var 2)) [.set 5 true (.call "_law_left" _law_left [(.var 0), (.var 2), (.var 4), (.ix (.var 1) (.var 4))])] [],
    .app 3 (.var 5),
    .iff (.isn (.var 5)) [.retV 3] [],
    .iff (.cmp .eq (.var 5) (.cint 0)) [.set 2 true .cnon] [.iff (.ands [(.cmp .eq (.ix (.var 0) (.cint 0)) (.cstr "again")), (.call "_law_holds" _law_holds [(.ix (.ix (.ix (.var 0) (.cint 2)) (.cint 0)) (.cint 0)), (.ix (.var 1) (.var 4))])]) [.set 2 true (.bin .add (.var 4) (.cint 1))] []]]
noncomputable def b__law_history : List S :=
  [.set 2 true .cnon,
    .set 3 false (.lst []),
    .for_ (.nm 4) .range [(.bi .len [(.var 1)])] (lp__law_history_1) [4, 5],
    .retV 3]
noncomputable def _law_history : Sem' := runDef 2 6 b__law_history
def N__law_breach : List PySem.Str := ["rule", "run", "told"]
noncomputable def b__law_breach : List S :=
  [.set 2 true (.call "_law_history" _law_history [(.var 0), (.var 1)]),
    .iff (.ands [(.cmp .gt (.bi .len [(.var 2)]) (.cint 0)), (.isn (.ix (.var 2) (.neg (.cint 1))))]) [.ret (.bin .sub (.bi .len [(.var 2)]) (.cint 1))] [],
    .ret .cnon]
noncomputable def _law_breach : Sem' := runDef 2 3 b__law_breach
def N__law_same : List PySem.Str := ["told", "expected", "k"]
noncomputable def b__law_same (φ : Sem') : List S :=
  [.iff (.isn (.var 1)) [.ret (.isn (.var 0))] [],
    .iff (.isi (.var 1) .bool) [.ret (.ands [(.isi (.var 0) .bool), (.cmp .eq (.var 0) (.var 1))])] [],
    .iff (.isi (.var 1) .int) [.ret (.ands [(.isi (.var 0) .int), (.not (.isi (.var 0) .bool)), (.cmp .eq (.var 0) (.var 1))])] [],
    .iff (.isi (.var 1) .str) [.ret (.ands [(.isi (.var 0) .str), (.cmp .eq (.var 0) (.var 1))])] [],
    .iff (.isi (.var 1) .tuple) [.iff (.not (.isi (.var 0) .tuple)) [.ret (.cbl false)] []] [.iff (.ors [(.not (.isi (.var 1) .list)), (.not (.isi (.var 0) .list))]) [.ret (.cbl false)] []],
    .iff (.cmp .ne (.bi .len [(.var 0)]) (.bi .len [(.var 1)])) [.ret (.cbl false)] [],
    .ret (.bi .all [(.lc (.call "_law_same" φ [(.ix (.var 0) (.var 2)), (.ix (.var 1) (.var 2))]) (.nm 2) .range [(.bi .len [(.var 1)])] [] [2])])]
noncomputable def r__law_same : Nat → Sem'
  | 0 => fun _ => .no
  | n + 1 => runDef 2 3 (b__law_same (r__law_same n))
noncomputable def _law_same : Sem' := r__law_same 6
def N_Timed_till_move : List PySem.Str := ["self", "world", "head", "end"]
noncomputable def b_Timed_till_move : List S :=
  [.setT (.tp [(.nm 2), (.nm 3)]) (.ix (.fld 2 3 "parts" (.var 0)) (.cint 0)),
    .iff (.cmp .eq (.bin .and (.bin .shr (.var 3) (.var 1)) (.cint 1)) (.cint 1)) [.ret (.cint 0)] [],
    .iff (.cmp .eq (.bin .and (.bin .shr (.var 2) (.var 1)) (.cint 1)) (.cint 1)) [.ret (.cint 1)] [],
    .ret .cnon]
noncomputable def Timed_till_move : Sem' := runDef 2 4 b_Timed_till_move
def N_Timed_level_at : List PySem.Str := ["self", "left", "later", "level", "_", "term"]
noncomputable def lp_Timed_level_at_1 : List S :=
  [.set 2 true (.bin .sub (.bin .sub (.var 2) (.var 5)) (.cint 1)),
    .iff (.cmp .gt (.var 1) (.var 2)) [.ret (.var 3)] []]
noncomputable def b_Timed_level_at : List S :=
  [.set 2 true (.prop 2 "longest" Timed_longest (.var 0)),
    .for_ (.tp [(.nm 3), (.tp [(.nm 4), (.nm 5)])]) .enum [(.fld 2 3 "parts" (.var 0))] (lp_Timed_level_at_1) [3, 4, 5],
    .ret (.bi .len [(.fld 2 3 "parts" (.var 0))])]
noncomputable def Timed_level_at : Sem' := runDef 2 6 b_Timed_level_at
def N_Timed_ended : List PySem.Str := ["self", "left"]
noncomputable def b_Timed_ended : List S :=
  [.iff (.cmp .eq (.var 1) (.cint 1)) [.ret .cnon] [],
    .ret (.bin .sub (.var 1) (.cint 1))]
noncomputable def Timed_ended : Sem' := runDef 2 2 b_Timed_ended
def N_Timed_move : List PySem.Str := ["self", "left", "world", "now", "head"]
noncomputable def b_Timed_move : List S :=
  [.iff (.ands [(.cmp .eq (.var 1) (.cint 0)), (.cmp .eq (.bin .and (.bin .shr (.fld 2 2 "body" (.var 0)) (.var 2)) (.cint 1)) (.cint 0))]) [.ret (.cint 0)] [],
    .set 3 true (.ife (.cmp .eq (.var 1) (.cint 0)) (.prop 2 "longest" Timed_longest (.var 0)) (.var 1)),
    .iff (.cmp .eq (.fld 2 1 "kind" (.var 0)) (.cstr "till")) [.ret (.meth 2 "till_move" Timed_till_move (.var 0) [(.var 2)])] [],
    .set 4 true (.ix (.ix (.fld 2 3 "parts" (.var 0)) (.meth 2 "level_at" Timed_level_at (.var 0) [(.var 3)])) (.cint 0)),
    .iff (.cmp .eq (.bin .and (.bin .shr (.var 4) (.var 2)) (.cint 1)) (.cint 0)) [.ret (.meth 2 "ended" Timed_ended (.var 0) [(.var 3)])] [],
    .iff (.cmp .eq (.fld 2 1 "kind" (.var 0)) (.cstr "again")) [.ret (.prop 2 "longest" Timed_longest (.var 0))] [],
    .ret (.cint 0)]
noncomputable def Timed_move : Sem' := runDef 3 5 b_Timed_move
def N__law_first_breach : List PySem.Str := ["rules", "run", "found", "k", "moment"]
noncomputable def lp__law_first_breach_1 : List S :=
  [.set 4 true (.call "_law_breach" _law_breach [(.ix (.var 0) (.var 3)), (.var 1)]),
    .iff (.isnn (.var 4)) [.app 2 (.tup [(.var 4), (.var 3)])] []]
noncomputable def b__law_first_breach : List S :=
  [.set 2 false (.lst []),
    .for_ (.nm 3) .range [(.bi .len [(.var 0)])] (lp__law_first_breach_1) [3, 4],
    .iff (.cmp .eq (.bi .len [(.var 2)]) (.cint 0)) [.ret .cnon] [],
    .ret (.ix (.call "sorted" sortedS [(.var 2)]) (.cint 0))]
noncomputable def _law_first_breach : Sem' := runDef 2 5 b__law_first_breach
def N_Regime_beginning : List PySem.Str := ["self", "_"]
noncomputable def b_Regime_beginning : List S :=
  [.ret (.bi .tuple [(.lc (.cint 0) (.nm 1) .seq [(.fld 1 1 "rules" (.var 0))] [] [1])])]
noncomputable def Regime_beginning : Sem' := runDef 1 2 b_Regime_beginning
def N_Regime_moved : List PySem.Str := ["self", "standing", "world", "rule", "left"]
noncomputable def b_Regime_moved : List S :=
  [.ret (.bi .tuple [(.lc (.meth 2 "move" Timed_move (.var 3) [(.var 4), (.var 2)]) (.tp [(.nm 3), (.nm 4)]) .zip [(.fld 1 1 "rules" (.var 0)), (.var 1)] [] [3, 4])])]
noncomputable def Regime_moved : Sem' := runDef 3 5 b_Regime_moved
def N_Regime_broken_by : List PySem.Str := ["self", "standing", "world", "after", "number", "left"]
noncomputable def b_Regime_broken_by : List S :=
  [.set 3 true (.meth 1 "moved" Regime_moved (.var 0) [(.var 1), (.var 2)]),
    .ret (.bi .tuple [(.lc (.var 4) (.tp [(.nm 4), (.nm 5)]) .enum [(.var 3)] [(.isn (.var 5))] [4, 5])])]
noncomputable def Regime_broken_by : Sem' := runDef 3 6 b_Regime_broken_by
def N_Regime_move : List PySem.Str := ["self", "standing", "world", "after"]
noncomputable def b_Regime_move : List S :=
  [.set 3 true (.meth 1 "moved" Regime_moved (.var 0) [(.var 1), (.var 2)]),
    .iff (.cmp .inn .cnon (.var 3)) [.ret .cnon] [],
    .ret (.var 3)]
noncomputable def Regime_move : Sem' := runDef 3 4 b_Regime_move
def N_first_breach : List PySem.Str := ["regime", "run", "standing", "moment", "world", "broken"]
noncomputable def lp_first_breach_1 : List S :=
  [.set 5 true (.meth 1 "broken_by" Regime_broken_by (.var 0) [(.var 2), (.var 4)]),
    .iff (.cmp .gt (.bi .len [(.var 5)]) (.cint 0)) [.ret (.tup [(.var 3), (.ix (.var 5) (.cint 0))])] [],
    .set 2 true (.meth 1 "move" Regime_move (.var 0) [(.var 2), (.var 4)])]
noncomputable def b_first_breach : List S :=
  [.set 2 true (.meth 1 "beginning" Regime_beginning (.var 0) []),
    .for_ (.tp [(.nm 3), (.nm 4)]) .enum [(.var 1)] (lp_first_breach_1) [3, 4, 5],
    .ret .cnon]
noncomputable def first_breach : Sem' := runDef 2 6 b_first_breach
end Law

namespace Law
open Fx
def N__law_rules : List PySem.Str := ["script", "at", "n", "count", "facts", "top", "drawn", "kinds", "rules", "k", "body", "head", "kind"]
noncomputable def lp__law_rules_1 : List S :=
  [.set 10 true (.ix (.var 6) (.bin .mul (.cint 3) (.var 9))),
    .set 11 true (.ix (.var 6) (.bin .add (.bin .mul (.cint 3) (.var 9)) (.cint 1))),
    .set 12 true (.bin .mod (.ix (.var 7) (.var 9)) (.cint 6)),
    .iff (.cmp .lt (.var 12) (.cint 2)) [.set 10 true (.bin .sub (.var 5) (.cint 1))] [],
    .iff (.cmp .eq (.var 12) (.cint 2)) [.set 10 true (.bin .or (.var 10) (.var 4))] [],
    .iff (.ands [(.cmp .eq (.var 12) (.cint 3)), (.cmp .gt (.var 9) (.cint 0))]) [.set 10 true (.bin .or (.ix (.ix (.var 8) (.bin .sub (.var 9) (.cint 1))) (.cint 1)) (.var 10))] [],
    .iff (.cmp .gt (.ix (.var 7) (.var 9)) (.cint 5)) [.set 11 true (.bin .or (.var 11) (.ix (.var 6) (.bin .add (.bin .mul (.cint 3) (.var 9)) (.cint 2))))] [],
    .app 8 (.tup [(.var 10), (.var 11)])]
noncomputable def b__law_rules : List S :=
  [.set 5 true (.bin .shl (.cint 1) (.bin .shl (.cint 1) (.var 2))),
    .set 6 true (.call "_law_numbers" _law_numbers [(.var 0), (.var 1), (.bin .mul (.cint 3) (.var 3)), (.var 5)]),
    .set 7 true (.call "_law_numbers" _law_numbers [(.var 0), (.bin .add (.var 1) (.cint 1)), (.var 3), (.cint 12)]),
    .set 8 false (.lst []),
    .for_ (.nm 9) .range [(.var 3)] (lp__law_rules_1) [9, 10, 11, 12],
    .retV 8]
noncomputable def _law_rules : Sem' := runDef 5 13 b__law_rules
def N__law_powers : List PySem.Str := ["script", "at", "n", "size", "people", "count", "top", "kinds", "props", "powers", "k", "need", "kind", "body", "act"]
noncomputable def lp__law_powers_1 : List S :=
  [.set 11 true (.ix (.var 8) (.bin .mul (.cint 4) (.var 10))),
    .iff (.cmp .eq (.bin .mod (.ix (.var 7) (.bin .mul (.cint 4) (.var 10))) (.cint 3)) (.cint 0)) [.set 11 true (.bin .sub (.var 6) (.cint 1))] [],
    .iff (.cmp .eq (.bin .mod (.ix (.var 7) (.bin .mul (.cint 4) (.var 10))) (.cint 3)) (.cint 1)) [.set 11 true (.bin .or (.var 11) (.ix (.var 8) (.bin .add (.bin .mul (.cint 4) (.var 10)) (.cint 1))))] [],
    .set 12 true (.cstr "so"),
    .iff (.cmp .eq (.bin .mod (.ix (.var 7) (.bin .add (.bin .mul (.cint 4) (.var 10)) (.cint 1))) (.cint 2)) (.cint 1)) [.set 12 true (.cstr "due")] [],
    .set 13 true (.bin .sub (.var 6) (.cint 1)),
    .iff (.cmp .lt (.bin .mod (.ix (.var 7) (.bin .add (.bin .mul (.cint 4) (.var 10)) (.cint 1))) (.cint 5)) (.cint 2)) [.set 13 true (.ix (.var 8) (.bin .add (.bin .mul (.cint 4) (.var 10)) (.cint 3)))] [],
    .set 14 true (.tup [(.cstr "make"), (.var 13), (.ix (.var 8) (.bin .add (.bin .mul (.cint 4) (.var 10)) (.cint 2)))]),
    .iff (.ands [(.cmp .gt (.var 3) (.cint 0)), (.cmp .eq (.bin .mod (.ix (.var 7) (.bin .add (.bin .mul (.cint 4) (.var 10)) (.cint 2))) (.cint 3)) (.cint 1))]) [.set 14 true (.tup [(.cstr "strike"), (.bin .mod (.ix (.var 7) (.bin .add (.bin .mul (.cint 4) (.var 10)) (.cint 3))) (.var 3))])] [],
    .app 9 (.tup [(.bin .mod (.bin .fdiv (.ix (.var 7) (.bin .mul (.cint 4) (.var 10))) (.cint 3)) (.var 4)), (.var 12), (.var 11), (.var 14)])]
noncomputable def b__law_powers : List S :=
  [.set 6 true (.bin .shl (.cint 1) (.bin .shl (.cint 1) (.var 2))),
    .set 7 true (.call "_law_numbers" _law_numbers [(.var 0), (.var 1), (.bin .mul (.cint 4) (.var 5)), (.cint 840)]),
    .set 8 true (.call "_law_numbers" _law_numbers [(.var 0), (.bin .add (.var 1) (.cint 1)), (.bin .mul (.cint 4) (.var 5)), (.var 6)]),
    .set 9 false (.lst []),
    .for_ (.nm 10) .range [(.var 5)] (lp__law_powers_1) [10, 11, 12, 13, 14],
    .retV 9]
noncomputable def _law_powers : Sem' := runDef 6 15 b__law_powers
def N__law_spoiled : List PySem.Str := ["n", "size", "people", "power", "way", "top", "acts"]
noncomputable def b__law_spoiled : List S :=
  [.set 5 true (.bin .shl (.cint 1) (.bin .shl (.cint 1) (.var 0))),
    .set 6 true (.lst [(.tup [(.cstr "makes"), (.cint 0), (.cint 0)]), (.tup [(.cstr "make"), (.cint 0)]), (.tup [(.cstr "make"), (.var 5), (.cint 0)]), (.tup [(.cstr "make"), (.cint 0), (.neg (.cint 1))]), (.tup [(.cstr "strike"), (.var 1)]), (.tup [(.cstr "strike"), (.neg (.cint 1))])]),
    .set 6 true (.bin .add (.var 6) (.lst [(.tup [(.cstr "strike"), (.cint 0), (.cint 0)]), (.tup [(.cstr "make"), (.cint 0), (.cint 0), (.cint 0)]), (.tup [(.cstr "make"), (.neg (.cint 1)), (.cint 0)]), (.tup [(.cstr "make"), (.cint 0), (.var 5)]), (.tup [(.cstr "strike")])])),
    .iff (.cmp .lt (.var 4) (.cint 11)) [.ret (.tup [(.ix (.var 3) (.cint 0)), (.ix (.var 3) (.cint 1)), (.ix (.var 3) (.cint 2)), (.ix (.var 6) (.var 4))])] [],
    .iff (.cmp .eq (.var 4) (.cint 11)) [.ret (.tup [(.var 2), (.ix (.var 3) (.cint 1)), (.ix (.var 3) (.cint 2)), (.ix (.var 3) (.cint 3))])] [],
    .iff (.cmp .eq (.var 4) (.cint 12)) [.ret (.tup [(.neg (.cint 1)), (.ix (.var 3) (.cint 1)), (.ix (.var 3) (.cint 2)), (.ix (.var 3) (.cint 3))])] [],
    .iff (.cmp .lt (.var 4) (.cint 15)) [.ret (.tup [(.ix (.var 3) (.cint 0)), (.ix (.lst [(.cstr "So"), (.cstr "due ")]) (.bin .sub (.var 4) (.cint 13))), (.ix (.var 3) (.cint 2)), (.ix (.var 3) (.cint 3))])] [],
    .ret (.tup [(.ix (.var 3) (.cint 0)), (.ix (.var 3) (.cint 1)), (.ix (.lst [(.neg (.cint 1)), (.var 5)]) (.bin .sub (.var 4) (.cint 15))), (.ix (.var 3) (.cint 3))])]
noncomputable def _law_spoiled : Sem' := runDef 5 7 b__law_spoiled
def N_Book___init__ : List PySem.Str := ["self", "n", "rules", "kept", "number", "body", "head"]
noncomputable def lp_Book___init___1 : List S :=
  [.iff (.ors [(.not (.call "is_prop" is_prop [(.var 1), (.var 5)])), (.not (.call "is_prop" is_prop [(.var 1), (.var 6)]))]) [.rse "BadRule" 3 [(.var 4)]] [],
    .app 3 (.tup [(.var 5), (.var 6)])]
noncomputable def b_Book___init__ : List S :=
  [.iff (.not (.chain .le .le (.cint 1) (.var 1) (.ccon "Book" 1 "MOST_LETTERS" (.int 4)))) [.rse "BadCount" 1 [(.var 1)]] [],
    .iff (.cmp .gt (.bi .len [(.var 2)]) (.ccon "Book" 1 "MOST_RULES" (.int 16))) [.rse "TooMany" 2 [(.ccon "Book" 1 "MOST_RULES" (.int 16))]] [],
    .set 3 false (.lst []),
    .for_ (.tp [(.nm 4), (.tp [(.nm 5), (.nm 6)])]) .enum [(.var 2)] (lp_Book___init___1) [4, 5, 6],
    .setF 0 1 0 "n" (.var 1),
    .setF 0 1 1 "rules" (.bi .tuple [(.var 3)])]
noncomputable def Book___init__ : Sem' := runInit 1 3 7 b_Book___init__
def N__law_expected : List PySem.Str := ["size", "people", "powers", "wrong"]
noncomputable def b__law_expected : List S :=
  [.iff (.cmp .gt (.var 0) (.cint 9)) [.ret (.tup [(.cstr "many"), (.cint 9)])] [],
    .iff (.not (.chain .le .le (.cint 1) (.var 1) (.cint 5))) [.ret (.tup [(.cstr "count"), (.var 1)])] [],
    .iff (.cmp .gt (.bi .len [(.var 2)]) (.cint 7)) [.ret (.tup [(.cstr "many"), (.cint 7)])] [],
    .iff (.cmp .gt (.bi .len [(.var 3)]) (.cint 0)) [.ret (.tup [(.cstr "power"), (.call "min" minS [(.var 3)])])] [],
    .ret (.tup [(.cstr "made"), (.cint 0)])]
noncomputable def _law_expected : Sem' := runDef 4 4 b__law_expected
def N_Book_size : List PySem.Str := ["self"]
noncomputable def b_Book_size : List S :=
  [.ret (.bi .len [(.fld 1 1 "rules" (.var 0))])]
noncomputable def Book_size : Sem' := runDef 1 1 b_Book_size
def N_is_act : List PySem.Str := ["book", "act"]
noncomputable def b_is_act : List S :=
  [.iff (.cmp .eq (.ix (.var 1) (.cint 0)) (.cstr "make")) [.ret (.ands [(.cmp .eq (.bi .len [(.var 1)]) (.cint 3)), (.call "is_prop" is_prop [(.fld 1 0 "n" (.var 0)), (.ix (.var 1) (.cint 1))]), (.call "is_prop" is_prop [(.fld 1 0 "n" (.var 0)), (.ix (.var 1) (.cint 2))])])] [],
    .ret (.ands [(.cmp .eq (.ix (.var 1) (.cint 0)) (.cstr "strike")), (.cmp .eq (.bi .len [(.var 1)]) (.cint 2)), (.chain .le .lt (.cint 0) (.ix (.var 1) (.cint 1)) (.prop 1 "size" Book_size (.var 0)))])]
noncomputable def is_act : Sem' := runDef 2 2 b_is_act
def N_is_power : List PySem.Str := ["book", "people", "power", "person", "kind", "need", "act"]
noncomputable def b_is_power : List S :=
  [.setT (.tp [(.nm 3), (.nm 4), (.nm 5), (.nm 6)]) (.var 2),
    .iff (.ors [(.not (.chain .le .lt (.cint 0) (.var 3) (.var 1))), (.cmp .nin (.var 4) (.gcon "NEEDS" (.tup [(.str "so"), (.str "due")]))), (.not (.call "is_prop" is_prop [(.fld 1 0 "n" (.var 0)), (.var 5)]))]) [.ret (.cbl false)] [],
    .ret (.call "is_act" is_act [(.var 0), (.var 6)])]
noncomputable def is_power : Sem' := runDef 3 7 b_is_power
def N_Code___init__ : List PySem.Str := ["self", "book", "people", "powers", "number", "power"]
noncomputable def lp_Code___init___1 : List S :=
  [.iff (.not (.call "is_power" is_power [(.var 1), (.var 2), (.var 5)])) [.rse "BadPower" 4 [(.var 4)]] []]
noncomputable def b_Code___init__ : List S :=
  [.iff (.cmp .gt (.prop 1 "size" Book_size (.var 1)) (.gcon "BASE_LIMIT" (.int 9))) [.rse "TooMany" 2 [(.gcon "BASE_LIMIT" (.int 9))]] [],
    .iff (.not (.chain .le .le (.cint 1) (.var 2) (.gcon "PEOPLE_LIMIT" (.int 5)))) [.rse "BadCount" 1 [(.var 2)]] [],
    .iff (.cmp .gt (.bi .len [(.var 3)]) (.gcon "POWER_LIMIT" (.int 7))) [.rse "TooMany" 2 [(.gcon "POWER_LIMIT" (.int 7))]] [],
    .for_ (.tp [(.nm 4), (.nm 5)]) .enum [(.var 3)] (lp_Code___init___1) [4, 5],
    .setF 0 0 0 "book" (.var 1),
    .setF 0 0 1 "people" (.var 2),
    .setF 0 0 2 "powers" (.bi .tuple [(.var 3)]),
    .setF 0 0 3 "n" (.fld 1 0 "n" (.var 1))]
noncomputable def Code___init__ : Sem' := runInit 0 4 6 b_Code___init__
def N__law_tried : List PySem.Str := ["book", "people", "powers", "e", "marks"]
noncomputable def b__law_tried : List S :=
  [.tryA [.ex (.new "Code" 0 Code___init__ [(.var 0), (.var 1), (.var 2)]),
    .ret (.tup [(.cstr "made"), (.cint 0)])] "DueError" 0 [(0, true), (1, true), (2, true), (3, true), (4, true)] 3 [.set 4 true (.lst [(.xis 3 "TooMany" 2 [(0, false), (1, false), (2, true), (3, false), (4, false)]), (.xis 3 "BadCount" 1 [(0, false), (1, true), (2, false), (3, false), (4, false)]), (.xis 3 "BadPower" 4 [(0, false), (1, false), (2, false), (3, false), (4, true)])]),
    .iff (.cmp .eq (.var 4) (.lst [(.cbl true), (.cbl false), (.cbl false)])) [.ret (.tup [(.cstr "many"), (.xfld 3 "limit" [(2, 0)])])] [],
    .iff (.cmp .eq (.var 4) (.lst [(.cbl false), (.cbl true), (.cbl false)])) [.ret (.tup [(.cstr "count"), (.xfld 3 "number" [(1, 0), (3, 0), (4, 0)])])] [],
    .iff (.cmp .eq (.var 4) (.lst [(.cbl false), (.cbl false), (.cbl true)])) [.ret (.tup [(.cstr "power"), (.xfld 3 "number" [(1, 0), (3, 0), (4, 0)])])] [],
    .ret (.tup [(.cstr "other"), (.cint 0)])]]
noncomputable def _law_tried : Sem' := runDef 3 5 b__law_tried
def N_Code_size : List PySem.Str := ["self"]
noncomputable def b_Code_size : List S :=
  [.ret (.bi .len [(.fld 0 2 "powers" (.var 0))])]
noncomputable def Code_size : Sem' := runDef 1 1 b_Code_size
def N__law_is_code : List PySem.Str := ["code", "n", "rules", "people", "powers"]
noncomputable def b__law_is_code : List S :=
  [.iff (.ors [(.not (.isi (.var 0) (.cls 0 "Code"))), (.not (.isi (.fld 0 0 "book" (.var 0)) (.cls 1 "Book")))]) [.ret (.cbl false)] [],
    .iff (.ors [(.not (.call "_law_same" _law_same [(.fld 1 1 "rules" (.fld 0 0 "book" (.var 0))), (.bi .tuple [(.var 2)])])), (.not (.call "_law_same" _law_same [(.fld 1 0 "n" (.fld 0 0 "book" (.var 0))), (.var 1)]))]) [.ret (.cbl false)] [],
    .iff (.ors [(.not (.call "_law_same" _law_same [(.fld 0 1 "people" (.var 0)), (.var 3)])), (.not (.call "_law_same" _law_same [(.fld 0 3 "n" (.var 0)), (.var 1)]))]) [.ret (.cbl false)] [],
    .ret (.ands [(.call "_law_same" _law_same [(.fld 0 2 "powers" (.var 0)), (.bi .tuple [(.var 4)])]), (.call "_law_same" _law_same [(.prop 0 "size" Code_size (.var 0)), (.bi .len [(.var 4)])])])]
noncomputable def _law_is_code : Sem' := runDef 5 5 b__law_is_code
def N_Code_held_by : List PySem.Str := ["self", "group", "number", "power"]
noncomputable def b_Code_held_by : List S :=
  [.ret (.bi .tuple [(.lc (.var 2) (.tp [(.nm 2), (.nm 3)]) .enum [(.fld 0 2 "powers" (.var 0))] [(.cmp .inn (.ix (.var 3) (.cint 0)) (.var 1))] [2, 3])])]
noncomputable def Code_held_by : Sem' := runDef 2 4 b_Code_held_by
def N_Code_with_power : List PySem.Str := ["self", "power"]
noncomputable def b_Code_with_power : List S :=
  [.ret (.new "Code" 0 Code___init__ [(.fld 0 0 "book" (.var 0)), (.fld 0 1 "people" (.var 0)), (.stl false [true, false] [(.fld 0 2 "powers" (.var 0)), (.var 1)])])]
noncomputable def Code_with_power : Sem' := runDef 2 2 b_Code_with_power
def N__law_more : List PySem.Str := ["code", "n", "rules", "people", "powers", "more", "bad", "e"]
noncomputable def b__law_more : List S :=
  [.iff (.cmp .eq (.bi .len [(.var 4)]) (.cint 7)) [.tryA [.ex (.meth 0 "with_power" Code_with_power (.var 0) [(.var 5)]),
    .ret (.cbl false)] "TooMany" 2 [(0, false), (1, false), (2, true), (3, false), (4, false)] 7 [.ret (.cmp .eq (.xfld 7 "limit" [(2, 0)]) (.cint 7))]] [],
    .iff (.not (.call "_law_is_code" _law_is_code [(.meth 0 "with_power" Code_with_power (.var 0) [(.var 5)]), (.var 1), (.var 2), (.var 3), (.bin .add (.var 4) (.lst [(.var 5)]))])) [.ret (.cbl false)] [],
    .tryA [.ex (.meth 0 "with_power" Code_with_power (.var 0) [(.var 6)]),
    .ret (.cbl false)] "BadPower" 4 [(0, false), (1, false), (2, false), (3, false), (4, true)] 7 [.ret (.cmp .eq (.xfld 7 "number" [(1, 0), (3, 0), (4, 0)]) (.bi .len [(.var 4)]))]]
noncomputable def _law_more : Sem' := runDef 7 8 b__law_more
def N_Code_without_power : List PySem.Str := ["self", "number"]
noncomputable def b_Code_without_power : List S :=
  [.ret (.new "Code" 0 Code___init__ [(.fld 0 0 "book" (.var 0)), (.fld 0 1 "people" (.var 0)), (.bin .add (.slc (.fld 0 2 "powers" (.var 0)) [] [(.var 1)]) (.slc (.fld 0 2 "powers" (.var 0)) [(.bin .add (.var 1) (.cint 1))] []))])]
noncomputable def Code_without_power : Sem' := runDef 2 2 b_Code_without_power
def N_law : List PySem.Str := ["script", "n", "size", "people", "many", "rules", "powers", "spare", "way", "wrong", "place", "book", "passed", "expected", "code", "group", "held", "bad", "out", "k"]
noncomputable def lp_law_1 : List S :=
  [.setI 6 (.var 10) (.call "_law_spoiled" _law_spoiled [(.var 1), (.var 2), (.var 3), (.ix (.var 6) (.var 10)), (.var 8)])]
noncomputable def b_law : List S :=
  [.set 1 true (.ix (.lst [(.cint 2), (.cint 3), (.cint 1), (.cint 4)]) (.bin .mod (.call "_law_cell" _law_cell [(.var 0), (.cint 0)]) (.cint 4))),
    .set 2 true (.ix (.lst [(.cint 3), (.cint 0), (.cint 9), (.cint 5), (.cint 10), (.cint 2), (.cint 12), (.cint 9)]) (.bin .mod (.call "_law_cell" _law_cell [(.var 0), (.cint 1)]) (.cint 8))),
    .set 3 true (.ix (.lst [(.cint 3), (.cint 1), (.cint 5), (.cint 2), (.cint 0), (.cint 6), (.cint 4), (.cint 5)]) (.bin .mod (.call "_law_cell" _law_cell [(.var 0), (.cint 2)]) (.cint 8))),
    .set 4 true (.ix (.lst [(.cint 3), (.cint 5), (.cint 7), (.cint 0), (.cint 8), (.cint 1), (.cint 7), (.cint 2)]) (.bin .mod (.call "_law_cell" _law_cell [(.var 0), (.cint 3)]) (.cint 8))),
    .set 5 true (.call "_law_rules" _law_rules [(.var 0), (.cint 4), (.var 1), (.var 2), (.cint 3)]),
    .set 6 false (.call "_law_powers" _law_powers [(.var 0), (.cint 6), (.var 1), (.var 2), (.bi .max [(.cint 1), (.var 3)]), (.var 4)]),
    .set 7 true (.ix (.call "_law_powers" _law_powers [(.var 0), (.cint 8), (.var 1), (.var 2), (.bi .max [(.cint 1), (.var 3)]), (.cint 1)]) (.cint 0)),
    .set 8 true (.bin .mod (.call "_law_cell" _law_cell [(.var 0), (.cint 10)]) (.cint 17)),
    .set 9 true (.lst []),
    .iff (.ands [(.cmp .gt (.var 4) (.cint 0)), (.cmp .eq (.bin .mod (.call "_law_cell" _law_cell [(.var 0), (.cint 11)]) (.cint 2)) (.cint 1))]) [.set 9 true (.lst [(.bin .mod (.call "_law_cell" _law_cell [(.var 0), (.cint 12)]) (.var 4)), (.bin .mod (.call "_law_cell" _law_cell [(.var 0), (.cint 13)]) (.var 4))])] [],
    .for_ (.nm 10) .seq [(.var 9)] (lp_law_1) [10],
    .set 11 true (.new "Book" 1 Book___init__ [(.var 1), (.bi .list [(.var 5)])]),
    .set 12 false (.bi .list [(.var 6)]),
    .set 13 true (.call "_law_expected" _law_expected [(.var 2), (.var 3), (.var 6), (.var 9)]),
    .iff (.ors [(.not (.call "_law_same" _law_same [(.call "_law_tried" _law_tried [(.var 11), (.var 3), (.var 12)]), (.var 13)])), (.not (.call "_law_same" _law_same [(.var 12), (.var 6)]))]) [.ret (.cbl false)] [],
    .iff (.cmp .ne (.ix (.var 13) (.cint 0)) (.cstr "made")) [.ret (.cbl true)] [],
    .set 14 true (.new "Code" 0 Code___init__ [(.var 11), (.var 3), (.var 12)]),
    .app 12 (.var 7),
    .iff (.not (.call "_law_is_code" _law_is_code [(.var 14), (.var 1), (.var 5), (.var 3), (.var 6)])) [.ret (.cbl false)] [],
    .set 15 true (.bi .tuple [(.lc (.var 19) (.nm 19) .range [(.var 3)] [(.cmp .eq (.bin .and (.bin .shr (.call "_law_cell" _law_cell [(.var 0), (.cint 14)]) (.var 19)) (.cint 1)) (.cint 1))] [19])]),
    .set 16 true (.lc (.var 19) (.nm 19) .range [(.var 4)] [(.cmp .inn (.ix (.ix (.var 6) (.var 19)) (.cint 0)) (.var 15))] [19]),
    .iff (.not (.call "_law_same" _law_same [(.meth 0 "held_by" Code_held_by (.var 14) [(.var 15)]), (.bi .tuple [(.var 16)])])) [.ret (.cbl false)] [],
    .set 17 true (.call "_law_spoiled" _law_spoiled [(.var 1), (.var 2), (.var 3), (.var 7), (.var 8)]),
    .iff (.not (.call "_law_more" _law_more [(.var 14), (.var 1), (.var 5), (.var 3), (.var 6), (.var 7), (.var 17)])) [.ret (.cbl false)] [],
    .iff (.cmp .gt (.var 4) (.cint 0)) [.set 18 true (.bin .mod (.call "_law_cell" _law_cell [(.var 0), (.cint 15)]) (.var 4)),
    .iff (.not (.call "_law_is_code" _law_is_code [(.meth 0 "without_power" Code_without_power (.var 14) [(.var 18)]), (.var 1), (.var 5), (.var 3), (.bin .add (.slc (.var 6) [] [(.var 18)]) (.slc (.var 6) [(.bin .add (.var 18) (.cint 1))] []))])) [.ret (.cbl false)] []] [],
    .ret (.call "_law_is_code" _law_is_code [(.var 14), (.var 1), (.var 5), (.var 3), (.var 6)])]
noncomputable def law : Sem' := runDef 1 20 b_law
end Law

namespace Law
open PySem PySem.Spec PyProof.Rows L2 Fx
def top (i : Nat) : Stmt := PySem.Challenge.pw_powersanddays_k00_codes_made_and_refused.main.body.getD i (.Pass ⟨0, 0, 0, 0⟩)
abbrev s__law_cell : Stmt := (top 21)
theorem sc__law_cell : FnScope N__law_cell ["script", "k"] (defScope s__law_cell) := ⟨rfl, rfl, rfl, by decide +kernel, rfl, by decide +kernel, by decide +kernel⟩
theorem ch__law_cell : chkSs (chkS 40 N__law_cell (defScope s__law_cell) true) b__law_cell (defBody s__law_cell) = true := by kernel_rfl
abbrev s__law_numbers : Stmt := (top 22)
theorem sc__law_numbers : FnScope N__law_numbers ["script", "at", "count", "radix"] (defScope s__law_numbers) := ⟨rfl, rfl, rfl, by decide +kernel, rfl, by decide +kernel, by decide +kernel⟩
theorem ch__law_numbers : chkSs (chkS 40 N__law_numbers (defScope s__law_numbers) true) b__law_numbers (defBody s__law_numbers) = true := by kernel_rfl
abbrev s__law_rules : Stmt := (top 24)
theorem sc__law_rules : FnScope N__law_rules ["script", "at", "n", "count", "facts"] (defScope s__law_rules) := ⟨rfl, rfl, rfl, by decide +kernel, rfl, by decide +kernel, by decide +kernel⟩
theorem ch__law_rules : chkSs (chkS 40 N__law_rules (defScope s__law_rules) true) b__law_rules (defBody s__law_rules) = true := by kernel_rfl
abbrev s__law_powers : Stmt := (top 25)
theorem sc__law_powers : FnScope N__law_powers ["script", "at", "n", "size", "people", "count"] (defScope s__law_powers) := ⟨rfl, rfl, rfl, by decide +kernel, rfl, by decide +kernel, by decide +kernel⟩
theorem ch__law_powers : chkSs (chkS 40 N__law_powers (defScope s__law_powers) true) b__law_powers (defBody s__law_powers) = true := by kernel_rfl
abbrev s__law_spoiled : Stmt := (top 26)
theorem sc__law_spoiled : FnScope N__law_spoiled ["n", "size", "people", "power", "way"] (defScope s__law_spoiled) := ⟨rfl, rfl, rfl, by decide +kernel, rfl, by decide +kernel, by decide +kernel⟩
theorem ch__law_spoiled : chkSs (chkS 40 N__law_spoiled (defScope s__law_spoiled) true) b__law_spoiled (defBody s__law_spoiled) = true := by kernel_rfl
abbrev s_everything : Stmt := (top 8)
theorem sc_everything : FnScope N_everything ["n"] (defScope s_everything) := ⟨rfl, rfl, rfl, by decide +kernel, rfl, by decide +kernel, by decide +kernel⟩
theorem ch_everything : chkSs (chkS 40 N_everything (defScope s_everything) true) b_everything (defBody s_everything) = true := by kernel_rfl
abbrev s_is_prop : Stmt := (top 9)
theorem sc_is_prop : FnScope N_is_prop ["n", "prop"] (defScope s_is_prop) := ⟨rfl, rfl, rfl, by decide +kernel, rfl, by decide +kernel, by decide +kernel⟩
theorem ch_is_prop : chkSs (chkS 40 N_is_prop (defScope s_is_prop) true) b_is_prop (defBody s_is_prop) = true := by kernel_rfl
abbrev s_Book___init__ : Stmt := (inClass (top 19) 2)
theorem sc_Book___init__ : FnScope N_Book___init__ ["self", "n", "rules"] (defScope s_Book___init__) := ⟨rfl, rfl, rfl, by decide +kernel, rfl, by decide +kernel, by decide +kernel⟩
theorem ch_Book___init__ : chkSs (chkS 40 N_Book___init__ (defScope s_Book___init__) true) b_Book___init__ (defBody s_Book___init__) = true := by kernel_rfl
abbrev s__law_expected : Stmt := (top 28)
theorem sc__law_expected : FnScope N__law_expected ["size", "people", "powers", "wrong"] (defScope s__law_expected) := ⟨rfl, rfl, rfl, by decide +kernel, rfl, by decide +kernel, by decide +kernel⟩
theorem ch__law_expected : chkSs (chkS 40 N__law_expected (defScope s__law_expected) true) b__law_expected (defBody s__law_expected) = true := by kernel_rfl
abbrev s__law_same : Stmt := (top 23)
theorem sc__law_same : FnScope N__law_same ["told", "expected"] (defScope s__law_same) := ⟨rfl, rfl, rfl, by decide +kernel, rfl, by decide +kernel, by decide +kernel⟩
theorem ch__law_same (φ : Sem') : chkSs (chkS 40 N__law_same (defScope s__law_same) true) (b__law_same φ) (defBody s__law_same) = true := by kernel_rfl
abbrev s_Book_size : Stmt := (inClass (top 19) 4)
theorem sc_Book_size : FnScope N_Book_size ["self"] (defScope s_Book_size) := ⟨rfl, rfl, rfl, by decide +kernel, rfl, by decide +kernel, by decide +kernel⟩
theorem ch_Book_size : chkSs (chkS 40 N_Book_size (defScope s_Book_size) true) b_Book_size (defBody s_Book_size) = true := by kernel_rfl
abbrev s_is_act : Stmt := (top 15)
theorem sc_is_act : FnScope N_is_act ["book", "act"] (defScope s_is_act) := ⟨rfl, rfl, rfl, by decide +kernel, rfl, by decide +kernel, by decide +kernel⟩
theorem ch_is_act : chkSs (chkS 40 N_is_act (defScope s_is_act) true) b_is_act (defBody s_is_act) = true := by kernel_rfl
abbrev s_is_power : Stmt := (top 16)
theorem sc_is_power : FnScope N_is_power ["book", "people", "power"] (defScope s_is_power) := ⟨rfl, rfl, rfl, by decide +kernel, rfl, by decide +kernel, by decide +kernel⟩
theorem ch_is_power : chkSs (chkS 40 N_is_power (defScope s_is_power) true) b_is_power (defBody s_is_power) = true := by kernel_rfl
abbrev s_Code___init__ : Stmt := (inClass (top 17) 0)
theorem sc_Code___init__ : FnScope N_Code___init__ ["self", "book", "people", "powers"] (defScope s_Code___init__) := ⟨rfl, rfl, rfl, by decide +kernel, rfl, by decide +kernel, by decide +kernel⟩
theorem ch_Code___init__ : chkSs (chkS 40 N_Code___init__ (defScope s_Code___init__) true) b_Code___init__ (defBody s_Code___init__) = true := by kernel_rfl
abbrev s__law_tried : Stmt := (top 27)
theorem sc__law_tried : FnScope N__law_tried ["book", "people", "powers"] (defScope s__law_tried) := ⟨rfl, rfl, rfl, by decide +kernel, rfl, by decide +kernel, by decide +kernel⟩
theorem ch__law_tried : chkSs (chkS 40 N__law_tried (defScope s__law_tried) true) b__law_tried (defBody s__law_tried) = true := by kernel_rfl
abbrev s_Code_size : Stmt := (inClass (top 17) 1)
theorem sc_Code_size : FnScope N_Code_size ["self"] (defScope s_Code_size) := ⟨rfl, rfl, rfl, by decide +kernel, rfl, by decide +kernel, by decide +kernel⟩
theorem ch_Code_size : chkSs (chkS 40 N_Code_size (defScope s_Code_size) true) b_Code_size (defBody s_Code_size) = true := by kernel_rfl
abbrev s__law_is_code : Stmt := (top 29)
theorem sc__law_is_code : FnScope N__law_is_code ["code", "n", "rules", "people", "powers"] (defScope s__law_is_code) := ⟨rfl, rfl, rfl, by decide +kernel, rfl, by decide +kernel, by decide +kernel⟩
theorem ch__law_is_code : chkSs (chkS 40 N__law_is_code (defScope s__law_is_code) true) b__law_is_code (defBody s__law_is_code) = true := by kernel_rfl
abbrev s_Code_held_by : Stmt := (inClass (top 17) 2)
theorem sc_Code_held_by : FnScope N_Code_held_by ["self", "group"] (defScope s_Code_held_by) := ⟨rfl, rfl, rfl, by decide +kernel, rfl, by decide +kernel, by decide +kernel⟩
theorem ch_Code_held_by : chkSs (chkS 40 N_Code_held_by (defScope s_Code_held_by) true) b_Code_held_by (defBody s_Code_held_by) = true := by kernel_rfl
abbrev s_Code_with_power : Stmt := (inClass (top 17) 3)
theorem sc_Code_with_power : FnScope N_Code_with_power ["self", "power"] (defScope s_Code_with_power) := ⟨rfl, rfl, rfl, by decide +kernel, rfl, by decide +kernel, by decide +kernel⟩
theorem ch_Code_with_power : chkSs (chkS 40 N_Code_with_power (defScope s_Code_with_power) true) b_Code_with_power (defBody s_Code_with_power) = true := by kernel_rfl
abbrev s__law_more : Stmt := (top 30)
theorem sc__law_more : FnScope N__law_more ["code", "n", "rules", "people", "powers", "more", "bad"] (defScope s__law_more) := ⟨rfl, rfl, rfl, by decide +kernel, rfl, by decide +kernel, by decide +kernel⟩
theorem ch__law_more : chkSs (chkS 40 N__law_more (defScope s__law_more) true) b__law_more (defBody s__law_more) = true := by kernel_rfl
abbrev s_Code_without_power : Stmt := (inClass (top 17) 4)
theorem sc_Code_without_power : FnScope N_Code_without_power ["self", "number"] (defScope s_Code_without_power) := ⟨rfl, rfl, rfl, by decide +kernel, rfl, by decide +kernel, by decide +kernel⟩
theorem ch_Code_without_power : chkSs (chkS 40 N_Code_without_power (defScope s_Code_without_power) true) b_Code_without_power (defBody s_Code_without_power) = true := by kernel_rfl
abbrev s_law : Stmt := (top 31)
theorem sc_law : FnScope N_law ["script"] (defScope s_law) := ⟨rfl, rfl, rfl, by decide +kernel, rfl, by decide +kernel, by decide +kernel⟩
theorem ch_law : chkSs (chkS 40 N_law (defScope s_law) true) b_law (defBody s_law) = true := by kernel_rfl
/-- where the classes stand -/
def tab (c_Code c_Book x_DueError x_BadCount x_TooMany x_BadRule x_BadPower : Addr) (w : World) : Tab where
  ca := fun i => match i with
    | 0 => c_Code
    | 1 => c_Book
    | _ => 0
  cf := fun i => match i with
    | 0 => ["book", "people", "powers", "n"]
    | 1 => ["n", "rules"]
    | _ => []
  xa := fun i => match i with
    | 0 => x_DueError
    | 1 => x_BadCount
    | 2 => x_TooMany
    | 3 => x_BadRule
    | 4 => x_BadPower
    | _ => 0
  xf := fun i => match i with
    | 0 => []
    | 1 => ["number"]
    | 2 => ["limit"]
    | 3 => ["number"]
    | 4 => ["number"]
    | _ => []
  wd := w
abbrev sx_BadCount : Stmt := inClass (top 3) 0
abbrev sx_BadPower : Stmt := inClass (top 6) 0
abbrev sx_BadRule : Stmt := inClass (top 5) 0
abbrev sx_TooMany : Stmt := inClass (top 4) 0
set_option maxHeartbeats 0 in
theorem all_mk {w : World} {K : PySem.W.Frag} {h : Heap} {mg : Str → Option Value} {fa c_Code c_Book x_DueError x_BadCount x_TooMany x_BadRule x_BadPower ad_NEEDS f__law_cell f__law_numbers f__law_rules f__law_powers f__law_spoiled f_everything f_is_prop f_Book___init__ f__law_expected f__law_same f_Book_size p_Book_size f_is_act f_is_power f_Code___init__ f__law_tried f_Code_size p_Code_size f__law_is_code f_Code_held_by f_Code_with_power f__law_more f_Code_without_power f_law : Addr} (X : K.In h) (G : h.Ns mainGlobals mg) (hfa : mg "law" = some (.ref fa))
    {od__law_cell an__law_cell od__law_numbers an__law_numbers od__law_rules an__law_rules od__law_powers an__law_powers od__law_spoiled an__law_spoiled od_everything an_everything od_is_prop an_is_prop od_Book___init__ an_Book___init__ od__law_expected an__law_expected od__law_same an__law_same od_Book_size an_Book_size od_is_act an_is_act od_is_power an_is_power od_Code___init__ an_Code___init__ od__law_tried an__law_tried od_Code_size an_Code_size od__law_is_code an__law_is_code od_Code_held_by an_Code_held_by od_Code_with_power an_Code_with_power od__law_more an__law_more od_Code_without_power an_Code_without_power od_law an_law : Option Addr} {sl__law_cell sl__law_numbers sl__law_rules sl__law_powers sl__law_spoiled sl_everything sl_is_prop sl_Book___init__ sl__law_expected sl__law_same sl_Book_size sl_is_act sl_is_power sl_Code___init__ sl__law_tried sl_Code_size sl__law_is_code sl_Code_held_by sl_Code_with_power sl__law_more sl_Code_without_power sl_law : Array (Option Value)} {oc__law_cell kV__law_cell dc__law_cell pm__law_cell cd__law_cell ct__law_cell oc__law_numbers kV__law_numbers dc__law_numbers pm__law_numbers cd__law_numbers ct__law_numbers oc__law_rules kV__law_rules dc__law_rules pm__law_rules cd__law_rules ct__law_rules oc__law_powers kV__law_powers dc__law_powers pm__law_powers cd__law_powers ct__law_powers oc__law_spoiled kV__law_spoiled dc__law_spoiled pm__law_spoiled cd__law_spoiled ct__law_spoiled oc_everything kV_everything dc_everything pm_everything cd_everything ct_everything oc_is_prop kV_is_prop dc_is_prop pm_is_prop cd_is_prop ct_is_prop oc_Book___init__ kV_Book___init__ dc_Book___init__ pm_Book___init__ cd_Book___init__ ct_Book___init__ oc__law_expected kV__law_expected dc__law_expected pm__law_expected cd__law_expected ct__law_expected oc__law_same kV__law_same dc__law_same pm__law_same cd__law_same ct__law_same oc_Book_size kV_Book_size dc_Book_size pm_Book_size cd_Book_size ct_Book_size oc_is_act kV_is_act dc_is_act pm_is_act cd_is_act ct_is_act oc_is_power kV_is_power dc_is_power pm_is_power cd_is_power ct_is_power oc_Code___init__ kV_Code___init__ dc_Code___init__ pm_Code___init__ cd_Code___init__ ct_Code___init__ oc__law_tried kV__law_tried dc__law_tried pm__law_tried cd__law_tried ct__law_tried oc_Code_size kV_Code_size dc_Code_size pm_Code_size cd_Code_size ct_Code_size oc__law_is_code kV__law_is_code dc__law_is_code pm__law_is_code cd__law_is_code ct__law_is_code oc_Code_held_by kV_Code_held_by dc_Code_held_by pm_Code_held_by cd_Code_held_by ct_Code_held_by oc_Code_with_power kV_Code_with_power dc_Code_with_power pm_Code_with_power cd_Code_with_power ct_Code_with_power oc__law_more kV__law_more dc__law_more pm__law_more cd__law_more ct__law_more oc_Code_without_power kV_Code_without_power dc_Code_without_power pm_Code_without_power cd_Code_without_power ct_Code_without_power oc_law kV_law dc_law pm_law cd_law ct_law : Value} {tk_Book_MOST_LETTERS : Tok} {tk_Book_MOST_RULES : Tok} {tk_BASE_LIMIT : Tok} {od_NEEDS : Option Addr} {nn_NEEDS : Nat} {sl_NEEDS : Array (Option Value)} {tk_NEEDS_0 : Tok} {tk_NEEDS_1 : Tok} {tk_PEOPLE_LIMIT : Tok} {tk_POWER_LIMIT : Tok} {rs_Book_size : List Value} {rs_Code_size : List Value} {nm_BadCount q_BadCount : Str} {N_BadCount fi_BadCount cda_BadCount ccl_BadCount : Addr} {bs_BadCount bm_BadCount sub_BadCount : List Value} {sn_BadCount : List Str} {ab_BadCount : Bool} {col_BadCount : Option Bool} {dd_BadCount od_BadCount an_BadCount cdd_BadCount cld_BadCount : Option Addr} {m0_BadCount m1_BadCount m2_BadCount m3_BadCount m5_BadCount : Option Value} {oc_BadCount dc_BadCount pm_BadCount kV_BadCount ct_BadCount cv_BadCount cw_BadCount : Value} {sl_BadCount ccs_BadCount csl_BadCount : Array (Option Value)} {vs_BadCount : Array Value} {file_BadCount : Str} {tf_BadCount : Tok} {nm_BadPower q_BadPower : Str} {N_BadPower fi_BadPower cda_BadPower ccl_BadPower : Addr} {bs_BadPower bm_BadPower sub_BadPower : List Value} {sn_BadPower : List Str} {ab_BadPower : Bool} {col_BadPower : Option Bool} {dd_BadPower od_BadPower an_BadPower cdd_BadPower cld_BadPower : Option Addr} {m0_BadPower m1_BadPower m2_BadPower m3_BadPower m5_BadPower : Option Value} {oc_BadPower dc_BadPower pm_BadPower kV_BadPower ct_BadPower cv_BadPower cw_BadPower : Value} {sl_BadPower ccs_BadPower csl_BadPower : Array (Option Value)} {vs_BadPower : Array Value} {file_BadPower : Str} {tf_BadPower : Tok} {nm_BadRule q_BadRule : Str} {N_BadRule fi_BadRule cda_BadRule ccl_BadRule : Addr} {bs_BadRule bm_BadRule sub_BadRule : List Value} {sn_BadRule : List Str} {ab_BadRule : Bool} {col_BadRule : Option Bool} {dd_BadRule od_BadRule an_BadRule cdd_BadRule cld_BadRule : Option Addr} {m0_BadRule m1_BadRule m2_BadRule m3_BadRule m5_BadRule : Option Value} {oc_BadRule dc_BadRule pm_BadRule kV_BadRule ct_BadRule cv_BadRule cw_BadRule : Value} {sl_BadRule ccs_BadRule csl_BadRule : Array (Option Value)} {vs_BadRule : Array Value} {file_BadRule : Str} {tf_BadRule : Tok} {nm_TooMany q_TooMany : Str} {N_TooMany fi_TooMany cda_TooMany ccl_TooMany : Addr} {bs_TooMany bm_TooMany sub_TooMany : List Value} {sn_TooMany : List Str} {ab_TooMany : Bool} {col_TooMany : Option Bool} {dd_TooMany od_TooMany an_TooMany cdd_TooMany cld_TooMany : Option Addr} {m0_TooMany m1_TooMany m2_TooMany m3_TooMany m5_TooMany : Option Value} {oc_TooMany dc_TooMany pm_TooMany kV_TooMany ct_TooMany cv_TooMany cw_TooMany : Value} {sl_TooMany ccs_TooMany csl_TooMany : Array (Option Value)} {vs_TooMany : Array Value} {file_TooMany : Str} {tf_TooMany : Tok}
    (g0_len : PySem.W.nsIn K mainGlobals "len" = some none)
    (g0_abs : PySem.W.nsIn K mainGlobals "abs" = some none)
    (g0_int : PySem.W.nsIn K mainGlobals "int" = some none)
    (g0_bool : PySem.W.nsIn K mainGlobals "bool" = some none)
    (g0_all : PySem.W.nsIn K mainGlobals "all" = some none)
    (g0_any : PySem.W.nsIn K mainGlobals "any" = some none)
    (g0_sum : PySem.W.nsIn K mainGlobals "sum" = some none)
    (g0_tuple : PySem.W.nsIn K mainGlobals "tuple" = some none)
    (g0_list : PySem.W.nsIn K mainGlobals "list" = some none)
    (g0_sorted : PySem.W.nsIn K mainGlobals "sorted" = some none)
    (g0_min : PySem.W.nsIn K mainGlobals "min" = some none)
    (g0_max : PySem.W.nsIn K mainGlobals "max" = some none)
    (g0_range : PySem.W.nsIn K mainGlobals "range" = some none)
    (g0_enumerate : PySem.W.nsIn K mainGlobals "enumerate" = some none)
    (g0_zip : PySem.W.nsIn K mainGlobals "zip" = some none)
    (g0_reversed : PySem.W.nsIn K mainGlobals "reversed" = some none)
    (g0_isinstance : PySem.W.nsIn K mainGlobals "isinstance" = some none)
    (g0_set : PySem.W.nsIn K mainGlobals "set" = some none)
    (g0_dict : PySem.W.nsIn K mainGlobals "dict" = some none)
    (g0_frozenset : PySem.W.nsIn K mainGlobals "frozenset" = some none)
    (g0_super : PySem.W.nsIn K mainGlobals "super" = some none)
    (g0_str : PySem.W.nsIn K mainGlobals "str" = some none)
    (a_Code : PySem.W.nsIn K mainGlobals "Code" = some (some (.ref c_Code)))
    (a_Book : PySem.W.nsIn K mainGlobals "Book" = some (some (.ref c_Book)))
    (pg_Code : PySem.W.plainGet K c_Code Str.empty = true)
    (hd_Code : PySem.W.hasDictIn K c_Code = true)
    (po_Code : PySem.W.plainOver K c_Code = true)
    (sa_Code : PySem.W.findIn K (.ref c_Code) "__setattr__" = some (some (.builtin "object.__setattr__")))
    (pg_Book : PySem.W.plainGet K c_Book Str.empty = true)
    (hd_Book : PySem.W.hasDictIn K c_Book = true)
    (po_Book : PySem.W.plainOver K c_Book = true)
    (sa_Book : PySem.W.findIn K (.ref c_Book) "__setattr__" = some (some (.builtin "object.__setattr__")))
    (n_Book_n : PySem.W.findIn K (.ref c_Book) "n" = some none)
    (n_Book_rules : PySem.W.findIn K (.ref c_Book) "rules" = some none)
    (n_Code_book : PySem.W.findIn K (.ref c_Code) "book" = some none)
    (n_Code_n : PySem.W.findIn K (.ref c_Code) "n" = some none)
    (n_Code_people : PySem.W.findIn K (.ref c_Code) "people" = some none)
    (n_Code_powers : PySem.W.findIn K (.ref c_Code) "powers" = some none)
    (mk_Book : PySem.W.makesIn K c_Book = true)
    (kc_Book : PySem.W.keepIn K (.ref c_Book) = true)
    (mk_Code : PySem.W.makesIn K c_Code = true)
    (kc_Code : PySem.W.keepIn K (.ref c_Code) = true)
    (rd_Book : PySem.W.readsIn K c_Book (.type "type") = true)
    (ga_Book : PySem.W.specialIn K (.ref c_Book) "__getattribute__" = some (some (.builtin "type.__getattribute__")))
    (cv_Book_MOST_LETTERS : PySem.W.findCls K (.ref c_Book) (.type "type") "MOST_LETTERS" = some (.val (.int 4 tk_Book_MOST_LETTERS)))
    (cv_Book_MOST_RULES : PySem.W.findCls K (.ref c_Book) (.type "type") "MOST_RULES" = some (.val (.int 16 tk_Book_MOST_RULES)))
    (gc_BASE_LIMIT : PySem.W.nsIn K mainGlobals "BASE_LIMIT" = some (some (.int 9 tk_BASE_LIMIT)))
    (gc_NEEDS : PySem.W.nsIn K mainGlobals "NEEDS" = some (some (.ref ad_NEEDS)))
    (gt_NEEDS : K.lookup ad_NEEDS = some ⟨.type "tuple", od_NEEDS, .seq ([.str "so" tk_NEEDS_0, .str "due" tk_NEEDS_1] : List Value).toArray nn_NEEDS, sl_NEEDS⟩)
    (gc_PEOPLE_LIMIT : PySem.W.nsIn K mainGlobals "PEOPLE_LIMIT" = some (some (.int 5 tk_PEOPLE_LIMIT)))
    (gc_POWER_LIMIT : PySem.W.nsIn K mainGlobals "POWER_LIMIT" = some (some (.int 7 tk_POWER_LIMIT)))
    (a__law_cell : PySem.W.nsIn K mainGlobals "_law_cell" = some (some (.ref f__law_cell)))
    (l__law_cell : K.lookup f__law_cell = some ⟨oc__law_cell, od__law_cell, .func (PySem.W.fnOf "_law_cell" "_law_cell" (defArgs s__law_cell) (defBody s__law_cell) (defScope s__law_cell) .none kV__law_cell dc__law_cell pm__law_cell an__law_cell cd__law_cell ct__law_cell), sl__law_cell⟩)
    (cc__law_cell : PySem.W.codeIn K cd__law_cell "_law_cell" = true)
    (kk__law_cell : PySem.W.keepIn K (.ref f__law_cell) = true)
    (a__law_numbers : PySem.W.nsIn K mainGlobals "_law_numbers" = some (some (.ref f__law_numbers)))
    (l__law_numbers : K.lookup f__law_numbers = some ⟨oc__law_numbers, od__law_numbers, .func (PySem.W.fnOf "_law_numbers" "_law_numbers" (defArgs s__law_numbers) (defBody s__law_numbers) (defScope s__law_numbers) .none kV__law_numbers dc__law_numbers pm__law_numbers an__law_numbers cd__law_numbers ct__law_numbers), sl__law_numbers⟩)
    (cc__law_numbers : PySem.W.codeIn K cd__law_numbers "_law_numbers" = true)
    (kk__law_numbers : PySem.W.keepIn K (.ref f__law_numbers) = true)
    (a__law_rules : PySem.W.nsIn K mainGlobals "_law_rules" = some (some (.ref f__law_rules)))
    (l__law_rules : K.lookup f__law_rules = some ⟨oc__law_rules, od__law_rules, .func (PySem.W.fnOf "_law_rules" "_law_rules" (defArgs s__law_rules) (defBody s__law_rules) (defScope s__law_rules) .none kV__law_rules dc__law_rules pm__law_rules an__law_rules cd__law_rules ct__law_rules), sl__law_rules⟩)
    (cc__law_rules : PySem.W.codeIn K cd__law_rules "_law_rules" = true)
    (kk__law_rules : PySem.W.keepIn K (.ref f__law_rules) = true)
    (a__law_powers : PySem.W.nsIn K mainGlobals "_law_powers" = some (some (.ref f__law_powers)))
    (l__law_powers : K.lookup f__law_powers = some ⟨oc__law_powers, od__law_powers, .func (PySem.W.fnOf "_law_powers" "_law_powers" (defArgs s__law_powers) (defBody s__law_powers) (defScope s__law_powers) .none kV__law_powers dc__law_powers pm__law_powers an__law_powers cd__law_powers ct__law_powers), sl__law_powers⟩)
    (cc__law_powers : PySem.W.codeIn K cd__law_powers "_law_powers" = true)
    (kk__law_powers : PySem.W.keepIn K (.ref f__law_powers) = true)
    (a__law_spoiled : PySem.W.nsIn K mainGlobals "_law_spoiled" = some (some (.ref f__law_spoiled)))
    (l__law_spoiled : K.lookup f__law_spoiled = some ⟨oc__law_spoiled, od__law_spoiled, .func (PySem.W.fnOf "_law_spoiled" "_law_spoiled" (defArgs s__law_spoiled) (defBody s__law_spoiled) (defScope s__law_spoiled) .none kV__law_spoiled dc__law_spoiled pm__law_spoiled an__law_spoiled cd__law_spoiled ct__law_spoiled), sl__law_spoiled⟩)
    (cc__law_spoiled : PySem.W.codeIn K cd__law_spoiled "_law_spoiled" = true)
    (kk__law_spoiled : PySem.W.keepIn K (.ref f__law_spoiled) = true)
    (a_everything : PySem.W.nsIn K mainGlobals "everything" = some (some (.ref f_everything)))
    (l_everything : K.lookup f_everything = some ⟨oc_everything, od_everything, .func (PySem.W.fnOf "everything" "everything" (defArgs s_everything) (defBody s_everything) (defScope s_everything) .none kV_everything dc_everything pm_everything an_everything cd_everything ct_everything), sl_everything⟩)
    (cc_everything : PySem.W.codeIn K cd_everything "everything" = true)
    (kk_everything : PySem.W.keepIn K (.ref f_everything) = true)
    (a_is_prop : PySem.W.nsIn K mainGlobals "is_prop" = some (some (.ref f_is_prop)))
    (l_is_prop : K.lookup f_is_prop = some ⟨oc_is_prop, od_is_prop, .func (PySem.W.fnOf "is_prop" "is_prop" (defArgs s_is_prop) (defBody s_is_prop) (defScope s_is_prop) .none kV_is_prop dc_is_prop pm_is_prop an_is_prop cd_is_prop ct_is_prop), sl_is_prop⟩)
    (cc_is_prop : PySem.W.codeIn K cd_is_prop "is_prop" = true)
    (kk_is_prop : PySem.W.keepIn K (.ref f_is_prop) = true)
    (a_Book___init__ : PySem.W.findIn K (.ref c_Book) "__init__" = some (some (.ref f_Book___init__)))
    (i_Book___init__ : PySem.W.isFn K (.ref f_Book___init__) = true)
    (l_Book___init__ : K.lookup f_Book___init__ = some ⟨oc_Book___init__, od_Book___init__, .func (PySem.W.fnOf "__init__" "Book.__init__" (defArgs s_Book___init__) (defBody s_Book___init__) (defScope s_Book___init__) .none kV_Book___init__ dc_Book___init__ pm_Book___init__ an_Book___init__ cd_Book___init__ ct_Book___init__), sl_Book___init__⟩)
    (cc_Book___init__ : PySem.W.codeIn K cd_Book___init__ "Book.__init__" = true)
    (kk_Book___init__ : PySem.W.keepIn K (.ref f_Book___init__) = true)
    (a__law_expected : PySem.W.nsIn K mainGlobals "_law_expected" = some (some (.ref f__law_expected)))
    (l__law_expected : K.lookup f__law_expected = some ⟨oc__law_expected, od__law_expected, .func (PySem.W.fnOf "_law_expected" "_law_expected" (defArgs s__law_expected) (defBody s__law_expected) (defScope s__law_expected) .none kV__law_expected dc__law_expected pm__law_expected an__law_expected cd__law_expected ct__law_expected), sl__law_expected⟩)
    (cc__law_expected : PySem.W.codeIn K cd__law_expected "_law_expected" = true)
    (kk__law_expected : PySem.W.keepIn K (.ref f__law_expected) = true)
    (a__law_same : PySem.W.nsIn K mainGlobals "_law_same" = some (some (.ref f__law_same)))
    (l__law_same : K.lookup f__law_same = some ⟨oc__law_same, od__law_same, .func (PySem.W.fnOf "_law_same" "_law_same" (defArgs s__law_same) (defBody s__law_same) (defScope s__law_same) .none kV__law_same dc__law_same pm__law_same an__law_same cd__law_same ct__law_same), sl__law_same⟩)
    (cc__law_same : PySem.W.codeIn K cd__law_same "_law_same" = true)
    (kk__law_same : PySem.W.keepIn K (.ref f__law_same) = true)
    (a_Book_size : PySem.W.findIn K (.ref c_Book) "size" = some (some (.ref p_Book_size)))
    (pg1_Book_size : PySem.W.specialIn K (.ref p_Book_size) "__get__" = some (some (.builtin "property.__get__")))
    (pt_Book_size : PySem.W.takesIn K (.ref p_Book_size) = some true)
    (pr_Book_size : PySem.W.recIn K p_Book_size "property" = some (.ref f_Book_size :: rs_Book_size))
    (l_Book_size : K.lookup f_Book_size = some ⟨oc_Book_size, od_Book_size, .func (PySem.W.fnOf "size" "Book.size" (defArgs s_Book_size) (defBody s_Book_size) (defScope s_Book_size) .none kV_Book_size dc_Book_size pm_Book_size an_Book_size cd_Book_size ct_Book_size), sl_Book_size⟩)
    (cc_Book_size : PySem.W.codeIn K cd_Book_size "Book.size" = true)
    (kk_Book_size : PySem.W.keepIn K (.ref f_Book_size) = true)
    (a_is_act : PySem.W.nsIn K mainGlobals "is_act" = some (some (.ref f_is_act)))
    (l_is_act : K.lookup f_is_act = some ⟨oc_is_act, od_is_act, .func (PySem.W.fnOf "is_act" "is_act" (defArgs s_is_act) (defBody s_is_act) (defScope s_is_act) .none kV_is_act dc_is_act pm_is_act an_is_act cd_is_act ct_is_act), sl_is_act⟩)
    (cc_is_act : PySem.W.codeIn K cd_is_act "is_act" = true)
    (kk_is_act : PySem.W.keepIn K (.ref f_is_act) = true)
    (a_is_power : PySem.W.nsIn K mainGlobals "is_power" = some (some (.ref f_is_power)))
    (l_is_power : K.lookup f_is_power = some ⟨oc_is_power, od_is_power, .func (PySem.W.fnOf "is_power" "is_power" (defArgs s_is_power) (defBody s_is_power) (defScope s_is_power) .none kV_is_power dc_is_power pm_is_power an_is_power cd_is_power ct_is_power), sl_is_power⟩)
    (cc_is_power : PySem.W.codeIn K cd_is_power "is_power" = true)
    (kk_is_power : PySem.W.keepIn K (.ref f_is_power) = true)
    (a_Code___init__ : PySem.W.findIn K (.ref c_Code) "__init__" = some (some (.ref f_Code___init__)))
    (i_Code___init__ : PySem.W.isFn K (.ref f_Code___init__) = true)
    (l_Code___init__ : K.lookup f_Code___init__ = some ⟨oc_Code___init__, od_Code___init__, .func (PySem.W.fnOf "__init__" "Code.__init__" (defArgs s_Code___init__) (defBody s_Code___init__) (defScope s_Code___init__) .none kV_Code___init__ dc_Code___init__ pm_Code___init__ an_Code___init__ cd_Code___init__ ct_Code___init__), sl_Code___init__⟩)
    (cc_Code___init__ : PySem.W.codeIn K cd_Code___init__ "Code.__init__" = true)
    (kk_Code___init__ : PySem.W.keepIn K (.ref f_Code___init__) = true)
    (a__law_tried : PySem.W.nsIn K mainGlobals "_law_tried" = some (some (.ref f__law_tried)))
    (l__law_tried : K.lookup f__law_tried = some ⟨oc__law_tried, od__law_tried, .func (PySem.W.fnOf "_law_tried" "_law_tried" (defArgs s__law_tried) (defBody s__law_tried) (defScope s__law_tried) .none kV__law_tried dc__law_tried pm__law_tried an__law_tried cd__law_tried ct__law_tried), sl__law_tried⟩)
    (cc__law_tried : PySem.W.codeIn K cd__law_tried "_law_tried" = true)
    (kk__law_tried : PySem.W.keepIn K (.ref f__law_tried) = true)
    (a_Code_size : PySem.W.findIn K (.ref c_Code) "size" = some (some (.ref p_Code_size)))
    (pg1_Code_size : PySem.W.specialIn K (.ref p_Code_size) "__get__" = some (some (.builtin "property.__get__")))
    (pt_Code_size : PySem.W.takesIn K (.ref p_Code_size) = some true)
    (pr_Code_size : PySem.W.recIn K p_Code_size "property" = some (.ref f_Code_size :: rs_Code_size))
    (l_Code_size : K.lookup f_Code_size = some ⟨oc_Code_size, od_Code_size, .func (PySem.W.fnOf "size" "Code.size" (defArgs s_Code_size) (defBody s_Code_size) (defScope s_Code_size) .none kV_Code_size dc_Code_size pm_Code_size an_Code_size cd_Code_size ct_Code_size), sl_Code_size⟩)
    (cc_Code_size : PySem.W.codeIn K cd_Code_size "Code.size" = true)
    (kk_Code_size : PySem.W.keepIn K (.ref f_Code_size) = true)
    (a__law_is_code : PySem.W.nsIn K mainGlobals "_law_is_code" = some (some (.ref f__law_is_code)))
    (l__law_is_code : K.lookup f__law_is_code = some ⟨oc__law_is_code, od__law_is_code, .func (PySem.W.fnOf "_law_is_code" "_law_is_code" (defArgs s__law_is_code) (defBody s__law_is_code) (defScope s__law_is_code) .none kV__law_is_code dc__law_is_code pm__law_is_code an__law_is_code cd__law_is_code ct__law_is_code), sl__law_is_code⟩)
    (cc__law_is_code : PySem.W.codeIn K cd__law_is_code "_law_is_code" = true)
    (kk__law_is_code : PySem.W.keepIn K (.ref f__law_is_code) = true)
    (a_Code_held_by : PySem.W.findIn K (.ref c_Code) "held_by" = some (some (.ref f_Code_held_by)))
    (i_Code_held_by : PySem.W.isFn K (.ref f_Code_held_by) = true)
    (l_Code_held_by : K.lookup f_Code_held_by = some ⟨oc_Code_held_by, od_Code_held_by, .func (PySem.W.fnOf "held_by" "Code.held_by" (defArgs s_Code_held_by) (defBody s_Code_held_by) (defScope s_Code_held_by) .none kV_Code_held_by dc_Code_held_by pm_Code_held_by an_Code_held_by cd_Code_held_by ct_Code_held_by), sl_Code_held_by⟩)
    (cc_Code_held_by : PySem.W.codeIn K cd_Code_held_by "Code.held_by" = true)
    (kk_Code_held_by : PySem.W.keepIn K (.ref f_Code_held_by) = true)
    (a_Code_with_power : PySem.W.findIn K (.ref c_Code) "with_power" = some (some (.ref f_Code_with_power)))
    (i_Code_with_power : PySem.W.isFn K (.ref f_Code_with_power) = true)
    (l_Code_with_power : K.lookup f_Code_with_power = some ⟨oc_Code_with_power, od_Code_with_power, .func (PySem.W.fnOf "with_power" "Code.with_power" (defArgs s_Code_with_power) (defBody s_Code_with_power) (defScope s_Code_with_power) .none kV_Code_with_power dc_Code_with_power pm_Code_with_power an_Code_with_power cd_Code_with_power ct_Code_with_power), sl_Code_with_power⟩)
    (cc_Code_with_power : PySem.W.codeIn K cd_Code_with_power "Code.with_power" = true)
    (kk_Code_with_power : PySem.W.keepIn K (.ref f_Code_with_power) = true)
    (a__law_more : PySem.W.nsIn K mainGlobals "_law_more" = some (some (.ref f__law_more)))
    (l__law_more : K.lookup f__law_more = some ⟨oc__law_more, od__law_more, .func (PySem.W.fnOf "_law_more" "_law_more" (defArgs s__law_more) (defBody s__law_more) (defScope s__law_more) .none kV__law_more dc__law_more pm__law_more an__law_more cd__law_more ct__law_more), sl__law_more⟩)
    (cc__law_more : PySem.W.codeIn K cd__law_more "_law_more" = true)
    (kk__law_more : PySem.W.keepIn K (.ref f__law_more) = true)
    (a_Code_without_power : PySem.W.findIn K (.ref c_Code) "without_power" = some (some (.ref f_Code_without_power)))
    (i_Code_without_power : PySem.W.isFn K (.ref f_Code_without_power) = true)
    (l_Code_without_power : K.lookup f_Code_without_power = some ⟨oc_Code_without_power, od_Code_without_power, .func (PySem.W.fnOf "without_power" "Code.without_power" (defArgs s_Code_without_power) (defBody s_Code_without_power) (defScope s_Code_without_power) .none kV_Code_without_power dc_Code_without_power pm_Code_without_power an_Code_without_power cd_Code_without_power ct_Code_without_power), sl_Code_without_power⟩)
    (cc_Code_without_power : PySem.W.codeIn K cd_Code_without_power "Code.without_power" = true)
    (kk_Code_without_power : PySem.W.keepIn K (.ref f_Code_without_power) = true)
    (a_law : PySem.W.nsIn K mainGlobals "law" = some (some (.ref f_law)))
    (l_law : K.lookup f_law = some ⟨oc_law, od_law, .func (PySem.W.fnOf "law" "law" (defArgs s_law) (defBody s_law) (defScope s_law) .none kV_law dc_law pm_law an_law cd_law ct_law), sl_law⟩)
    (cc_law : PySem.W.codeIn K cd_law "law" = true)
    (kk_law : PySem.W.keepIn K (.ref f_law) = true)
    (a_DueError : PySem.W.nsIn K mainGlobals "DueError" = some (some (.ref x_DueError)))
    (xs_DueError : PySem.W.subIn K (.ref x_DueError) (.type "BaseException") = some true)
    (xh_DueError : PySem.W.hasDictIn K x_DueError = true)
    (xga_DueError : PySem.W.findIn K (.ref x_DueError) "__getattribute__" = some (some (.builtin "BaseException.__getattribute__")))
    (xgg_DueError : PySem.W.findIn K (.ref x_DueError) "__getattr__" = some none)
    (xcl_DueError : PySem.W.findIn K (.ref x_DueError) "__class__" = some (some (.builtin "object.__class__")))
    (xm_DueError : PySem.W.mroIn K x_DueError (.type "object") = some true)
    (xic_DueError : PySem.W.isClsIn K x_DueError = true)
    (xt_DueError : PySem.W.typeIn K (.ref x_DueError) = some (.type "type"))
    (a_BadCount : PySem.W.nsIn K mainGlobals "BadCount" = some (some (.ref x_BadCount)))
    (xs_BadCount : PySem.W.subIn K (.ref x_BadCount) (.type "BaseException") = some true)
    (xh_BadCount : PySem.W.hasDictIn K x_BadCount = true)
    (xga_BadCount : PySem.W.findIn K (.ref x_BadCount) "__getattribute__" = some (some (.builtin "BaseException.__getattribute__")))
    (xgg_BadCount : PySem.W.findIn K (.ref x_BadCount) "__getattr__" = some none)
    (xcl_BadCount : PySem.W.findIn K (.ref x_BadCount) "__class__" = some (some (.builtin "object.__class__")))
    (xm_BadCount : PySem.W.mroIn K x_BadCount (.type "object") = some true)
    (xic_BadCount : PySem.W.isClsIn K x_BadCount = true)
    (xt_BadCount : PySem.W.typeIn K (.ref x_BadCount) = some (.type "type"))
    (xn_BadCount_number : PySem.W.findIn K (.ref x_BadCount) "number" = some none)
    (a_TooMany : PySem.W.nsIn K mainGlobals "TooMany" = some (some (.ref x_TooMany)))
    (xs_TooMany : PySem.W.subIn K (.ref x_TooMany) (.type "BaseException") = some true)
    (xh_TooMany : PySem.W.hasDictIn K x_TooMany = true)
    (xga_TooMany : PySem.W.findIn K (.ref x_TooMany) "__getattribute__" = some (some (.builtin "BaseException.__getattribute__")))
    (xgg_TooMany : PySem.W.findIn K (.ref x_TooMany) "__getattr__" = some none)
    (xcl_TooMany : PySem.W.findIn K (.ref x_TooMany) "__class__" = some (some (.builtin "object.__class__")))
    (xm_TooMany : PySem.W.mroIn K x_TooMany (.type "object") = some true)
    (xic_TooMany : PySem.W.isClsIn K x_TooMany = true)
    (xt_TooMany : PySem.W.typeIn K (.ref x_TooMany) = some (.type "type"))
    (xn_TooMany_limit : PySem.W.findIn K (.ref x_TooMany) "limit" = some none)
    (a_BadRule : PySem.W.nsIn K mainGlobals "BadRule" = some (some (.ref x_BadRule)))
    (xs_BadRule : PySem.W.subIn K (.ref x_BadRule) (.type "BaseException") = some true)
    (xh_BadRule : PySem.W.hasDictIn K x_BadRule = true)
    (xga_BadRule : PySem.W.findIn K (.ref x_BadRule) "__getattribute__" = some (some (.builtin "BaseException.__getattribute__")))
    (xgg_BadRule : PySem.W.findIn K (.ref x_BadRule) "__getattr__" = some none)
    (xcl_BadRule : PySem.W.findIn K (.ref x_BadRule) "__class__" = some (some (.builtin "object.__class__")))
    (xm_BadRule : PySem.W.mroIn K x_BadRule (.type "object") = some true)
    (xic_BadRule : PySem.W.isClsIn K x_BadRule = true)
    (xt_BadRule : PySem.W.typeIn K (.ref x_BadRule) = some (.type "type"))
    (xn_BadRule_number : PySem.W.findIn K (.ref x_BadRule) "number" = some none)
    (a_BadPower : PySem.W.nsIn K mainGlobals "BadPower" = some (some (.ref x_BadPower)))
    (xs_BadPower : PySem.W.subIn K (.ref x_BadPower) (.type "BaseException") = some true)
    (xh_BadPower : PySem.W.hasDictIn K x_BadPower = true)
    (xga_BadPower : PySem.W.findIn K (.ref x_BadPower) "__getattribute__" = some (some (.builtin "BaseException.__getattribute__")))
    (xgg_BadPower : PySem.W.findIn K (.ref x_BadPower) "__getattr__" = some none)
    (xcl_BadPower : PySem.W.findIn K (.ref x_BadPower) "__class__" = some (some (.builtin "object.__class__")))
    (xm_BadPower : PySem.W.mroIn K x_BadPower (.type "object") = some true)
    (xic_BadPower : PySem.W.isClsIn K x_BadPower = true)
    (xt_BadPower : PySem.W.typeIn K (.ref x_BadPower) = some (.type "type"))
    (xn_BadPower_number : PySem.W.findIn K (.ref x_BadPower) "number" = some none)
    (icl_Book : PySem.W.findIn K (.ref c_Book) "__class__" = some (some (.builtin "object.__class__")))
    (im_Book : PySem.W.mroIn K c_Book (.type "object") = some true)
    (icl_Code : PySem.W.findIn K (.ref c_Code) "__class__" = some (some (.builtin "object.__class__")))
    (im_Code : PySem.W.mroIn K c_Code (.type "object") = some true)
    (sgc : PySem.W.specialIn K (.builtin "object.__class__") "__get__" = some (some (.builtin "getset_descriptor.__get__")))
    (tkc : PySem.W.takesIn K (.builtin "object.__class__") = some true)
    (sb_DueError_BadCount : PySem.W.subIn K (.ref x_DueError) (.ref x_BadCount) = some false)
    (sb_BadCount_BadCount : PySem.W.subIn K (.ref x_BadCount) (.ref x_BadCount) = some true)
    (sb_TooMany_BadCount : PySem.W.subIn K (.ref x_TooMany) (.ref x_BadCount) = some false)
    (sb_BadRule_BadCount : PySem.W.subIn K (.ref x_BadRule) (.ref x_BadCount) = some false)
    (sb_BadPower_BadCount : PySem.W.subIn K (.ref x_BadPower) (.ref x_BadCount) = some false)
    (sb_DueError_BadPower : PySem.W.subIn K (.ref x_DueError) (.ref x_BadPower) = some false)
    (sb_BadCount_BadPower : PySem.W.subIn K (.ref x_BadCount) (.ref x_BadPower) = some false)
    (sb_TooMany_BadPower : PySem.W.subIn K (.ref x_TooMany) (.ref x_BadPower) = some false)
    (sb_BadRule_BadPower : PySem.W.subIn K (.ref x_BadRule) (.ref x_BadPower) = some false)
    (sb_BadPower_BadPower : PySem.W.subIn K (.ref x_BadPower) (.ref x_BadPower) = some true)
    (sb_DueError_DueError : PySem.W.subIn K (.ref x_DueError) (.ref x_DueError) = some true)
    (sb_BadCount_DueError : PySem.W.subIn K (.ref x_BadCount) (.ref x_DueError) = some true)
    (sb_TooMany_DueError : PySem.W.subIn K (.ref x_TooMany) (.ref x_DueError) = some true)
    (sb_BadRule_DueError : PySem.W.subIn K (.ref x_BadRule) (.ref x_DueError) = some true)
    (sb_BadPower_DueError : PySem.W.subIn K (.ref x_BadPower) (.ref x_DueError) = some true)
    (sb_DueError_TooMany : PySem.W.subIn K (.ref x_DueError) (.ref x_TooMany) = some false)
    (sb_BadCount_TooMany : PySem.W.subIn K (.ref x_BadCount) (.ref x_TooMany) = some false)
    (sb_TooMany_TooMany : PySem.W.subIn K (.ref x_TooMany) (.ref x_TooMany) = some true)
    (sb_BadRule_TooMany : PySem.W.subIn K (.ref x_BadRule) (.ref x_TooMany) = some false)
    (sb_BadPower_TooMany : PySem.W.subIn K (.ref x_BadPower) (.ref x_TooMany) = some false)
    (tpany : PySem.W.nsIn K PySem.cStatics "thirdparty.any" = some none)
    (xl_BadCount : K.lookup x_BadCount = some (excClassObj nm_BadCount q_BadCount x_BadCount N_BadCount bs_BadCount bm_BadCount true sn_BadCount sub_BadCount ab_BadCount col_BadCount dd_BadCount m0_BadCount m1_BadCount m2_BadCount m3_BadCount m5_BadCount "ValueError.__new__"))
    (xb_BadCount : PySem.HandSPX.refsVE bm_BadCount = true)
    (xsa_BadCount : PySem.W.findIn K (.ref x_BadCount) "__setattr__" = some (some (.builtin "object.__setattr__")))
    (xi_BadCount : PySem.W.findIn K (.ref x_BadCount) "__init__" = some (some (.ref fi_BadCount)))
    (xft_BadCount : PySem.W.typeIn K (.ref fi_BadCount) = some (.type "function"))
    (xk_BadCount : PySem.W.keepIn K (.ref x_BadCount) = true)
    (xve_BadCount : PySem.W.subIn K (.ref x_BadCount) (.type "ValueError") = some true)
    (xsu_BadCount : PySem.W.ks_superIn K x_BadCount x_BadCount "__init__" = some (some (.builtin "ValueError.__init__")))
    (xo_BadCount : PySem.W.mroIn K x_BadCount (.ref x_BadCount) = some true)
    (xfl_BadCount : K.lookup fi_BadCount = some ⟨oc_BadCount, od_BadCount, .func (PySem.W.ksFn "__init__" "BadCount.__init__" (defArgs sx_BadCount) (defBody sx_BadCount) (defScope sx_BadCount) .none kV_BadCount dc_BadCount pm_BadCount an_BadCount (.ref cda_BadCount) ct_BadCount ccl_BadCount), sl_BadCount⟩)
    (xcd_BadCount : PySem.W.codeIn K (.ref cda_BadCount) "BadCount.__init__" = true)
    (xcl2_BadCount : K.lookup cda_BadCount = some ⟨cv_BadCount, cdd_BadCount, .fields vs_BadCount, ccs_BadCount⟩)
    (xvs_BadCount : vs_BadCount[2]? = some (.str file_BadCount tf_BadCount))
    (xfi_BadCount : ((PySem.Challenge.pw_powersanddays_k00_codes_made_and_refused.main.file : Str) == file_BadCount) = true)
    (xce_BadCount : K.lookup ccl_BadCount = some ⟨cw_BadCount, cld_BadCount, .cell (some (.ref x_BadCount)), csl_BadCount⟩)
    (xl_BadPower : K.lookup x_BadPower = some (excClassObj nm_BadPower q_BadPower x_BadPower N_BadPower bs_BadPower bm_BadPower true sn_BadPower sub_BadPower ab_BadPower col_BadPower dd_BadPower m0_BadPower m1_BadPower m2_BadPower m3_BadPower m5_BadPower "ValueError.__new__"))
    (xb_BadPower : PySem.HandSPX.refsVE bm_BadPower = true)
    (xsa_BadPower : PySem.W.findIn K (.ref x_BadPower) "__setattr__" = some (some (.builtin "object.__setattr__")))
    (xi_BadPower : PySem.W.findIn K (.ref x_BadPower) "__init__" = some (some (.ref fi_BadPower)))
    (xft_BadPower : PySem.W.typeIn K (.ref fi_BadPower) = some (.type "function"))
    (xk_BadPower : PySem.W.keepIn K (.ref x_BadPower) = true)
    (xve_BadPower : PySem.W.subIn K (.ref x_BadPower) (.type "ValueError") = some true)
    (xsu_BadPower : PySem.W.ks_superIn K x_BadPower x_BadPower "__init__" = some (some (.builtin "ValueError.__init__")))
    (xo_BadPower : PySem.W.mroIn K x_BadPower (.ref x_BadPower) = some true)
    (xfl_BadPower : K.lookup fi_BadPower = some ⟨oc_BadPower, od_BadPower, .func (PySem.W.ksFn "__init__" "BadPower.__init__" (defArgs sx_BadPower) (defBody sx_BadPower) (defScope sx_BadPower) .none kV_BadPower dc_BadPower pm_BadPower an_BadPower (.ref cda_BadPower) ct_BadPower ccl_BadPower), sl_BadPower⟩)
    (xcd_BadPower : PySem.W.codeIn K (.ref cda_BadPower) "BadPower.__init__" = true)
    (xcl2_BadPower : K.lookup cda_BadPower = some ⟨cv_BadPower, cdd_BadPower, .fields vs_BadPower, ccs_BadPower⟩)
    (xvs_BadPower : vs_BadPower[2]? = some (.str file_BadPower tf_BadPower))
    (xfi_BadPower : ((PySem.Challenge.pw_powersanddays_k00_codes_made_and_refused.main.file : Str) == file_BadPower) = true)
    (xce_BadPower : K.lookup ccl_BadPower = some ⟨cw_BadPower, cld_BadPower, .cell (some (.ref x_BadPower)), csl_BadPower⟩)
    (xl_BadRule : K.lookup x_BadRule = some (excClassObj nm_BadRule q_BadRule x_BadRule N_BadRule bs_BadRule bm_BadRule true sn_BadRule sub_BadRule ab_BadRule col_BadRule dd_BadRule m0_BadRule m1_BadRule m2_BadRule m3_BadRule m5_BadRule "ValueError.__new__"))
    (xb_BadRule : PySem.HandSPX.refsVE bm_BadRule = true)
    (xsa_BadRule : PySem.W.findIn K (.ref x_BadRule) "__setattr__" = some (some (.builtin "object.__setattr__")))
    (xi_BadRule : PySem.W.findIn K (.ref x_BadRule) "__init__" = some (some (.ref fi_BadRule)))
    (xft_BadRule : PySem.W.typeIn K (.ref fi_BadRule) = some (.type "function"))
    (xk_BadRule : PySem.W.keepIn K (.ref x_BadRule) = true)
    (xve_BadRule : PySem.W.subIn K (.ref x_BadRule) (.type "ValueError") = some true)
    (xsu_BadRule : PySem.W.ks_superIn K x_BadRule x_BadRule "__init__" = some (some (.builtin "ValueError.__init__")))
    (xo_BadRule : PySem.W.mroIn K x_BadRule (.ref x_BadRule) = some true)
    (xfl_BadRule : K.lookup fi_BadRule = some ⟨oc_BadRule, od_BadRule, .func (PySem.W.ksFn "__init__" "BadRule.__init__" (defArgs sx_BadRule) (defBody sx_BadRule) (defScope sx_BadRule) .none kV_BadRule dc_BadRule pm_BadRule an_BadRule (.ref cda_BadRule) ct_BadRule ccl_BadRule), sl_BadRule⟩)
    (xcd_BadRule : PySem.W.codeIn K (.ref cda_BadRule) "BadRule.__init__" = true)
    (xcl2_BadRule : K.lookup cda_BadRule = some ⟨cv_BadRule, cdd_BadRule, .fields vs_BadRule, ccs_BadRule⟩)
    (xvs_BadRule : vs_BadRule[2]? = some (.str file_BadRule tf_BadRule))
    (xfi_BadRule : ((PySem.Challenge.pw_powersanddays_k00_codes_made_and_refused.main.file : Str) == file_BadRule) = true)
    (xce_BadRule : K.lookup ccl_BadRule = some ⟨cw_BadRule, cld_BadRule, .cell (some (.ref x_BadRule)), csl_BadRule⟩)
    (xl_TooMany : K.lookup x_TooMany = some (excClassObj nm_TooMany q_TooMany x_TooMany N_TooMany bs_TooMany bm_TooMany true sn_TooMany sub_TooMany ab_TooMany col_TooMany dd_TooMany m0_TooMany m1_TooMany m2_TooMany m3_TooMany m5_TooMany "ValueError.__new__"))
    (xb_TooMany : PySem.HandSPX.refsVE bm_TooMany = true)
    (xsa_TooMany : PySem.W.findIn K (.ref x_TooMany) "__setattr__" = some (some (.builtin "object.__setattr__")))
    (xi_TooMany : PySem.W.findIn K (.ref x_TooMany) "__init__" = some (some (.ref fi_TooMany)))
    (xft_TooMany : PySem.W.typeIn K (.ref fi_TooMany) = some (.type "function"))
    (xk_TooMany : PySem.W.keepIn K (.ref x_TooMany) = true)
    (xve_TooMany : PySem.W.subIn K (.ref x_TooMany) (.type "ValueError") = some true)
    (xsu_TooMany : PySem.W.ks_superIn K x_TooMany x_TooMany "__init__" = some (some (.builtin "ValueError.__init__")))
    (xo_TooMany : PySem.W.mroIn K x_TooMany (.ref x_TooMany) = some true)
    (xfl_TooMany : K.lookup fi_TooMany = some ⟨oc_TooMany, od_TooMany, .func (PySem.W.ksFn "__init__" "TooMany.__init__" (defArgs sx_TooMany) (defBody sx_TooMany) (defScope sx_TooMany) .none kV_TooMany dc_TooMany pm_TooMany an_TooMany (.ref cda_TooMany) ct_TooMany ccl_TooMany), sl_TooMany⟩)
    (xcd_TooMany : PySem.W.codeIn K (.ref cda_TooMany) "TooMany.__init__" = true)
    (xcl2_TooMany : K.lookup cda_TooMany = some ⟨cv_TooMany, cdd_TooMany, .fields vs_TooMany, ccs_TooMany⟩)
    (xvs_TooMany : vs_TooMany[2]? = some (.str file_TooMany tf_TooMany))
    (xfi_TooMany : ((PySem.Challenge.pw_powersanddays_k00_codes_made_and_refused.main.file : Str) == file_TooMany) = true)
    (xce_TooMany : K.lookup ccl_TooMany = some ⟨cw_TooMany, cld_TooMany, .cell (some (.ref x_TooMany)), csl_TooMany⟩) :
    ∃ fd : FuncData, (∀ (s : Shared) (v : Value), BindsTo s fd ⟨[v], []⟩ [("script", v)]) ∧ ∀ base : Heap, K.In base → base.Ns mainGlobals mg → ∃ g : Tab, FnOk PySem.Challenge.pw_powersanddays_k00_codes_made_and_refused w K mg base (L2.CX PySem.Challenge.pw_powersanddays_k00_codes_made_and_refused w) 9 fa fd ["script"] (spOf K g law) := by
  have e := hfa.symm.trans (PySem.W.mg_of X G a_law)
  cases e
  have bi : ∀ x, isBi x = true → mg x = none := by
    intro x hx
    have hx := of_decide_eq_true hx
    simp only [List.mem_cons, List.not_mem_nil, or_false] at hx
    rcases hx with rfl | rfl | rfl | rfl | rfl | rfl | rfl | rfl | rfl | rfl | rfl | rfl | rfl | rfl | rfl | rfl | rfl | rfl | rfl | rfl
    · exact PySem.W.mg_none_of X G g0_len
    · exact PySem.W.mg_none_of X G g0_abs
    · exact PySem.W.mg_none_of X G g0_int
    · exact PySem.W.mg_none_of X G g0_bool
    · exact PySem.W.mg_none_of X G g0_all
    · exact PySem.W.mg_none_of X G g0_any
    · exact PySem.W.mg_none_of X G g0_sum
    · exact PySem.W.mg_none_of X G g0_tuple
    · exact PySem.W.mg_none_of X G g0_list
    · exact PySem.W.mg_none_of X G g0_sorted
    · exact PySem.W.mg_none_of X G g0_min
    · exact PySem.W.mg_none_of X G g0_max
    · exact PySem.W.mg_none_of X G g0_range
    · exact PySem.W.mg_none_of X G g0_enumerate
    · exact PySem.W.mg_none_of X G g0_zip
    · exact PySem.W.mg_none_of X G g0_reversed
    · exact PySem.W.mg_none_of X G g0_isinstance
    · exact PySem.W.mg_none_of X G g0_set
    · exact PySem.W.mg_none_of X G g0_dict
    · exact PySem.W.mg_none_of X G g0_frozenset
  refine ⟨PySem.W.fnOf "law" "law" (defArgs s_law) (defBody s_law) (defScope s_law) .none kV_law dc_law pm_law an_law cd_law ct_law, fun s v => .of_eq rfl, fun base _ _ => ⟨tab c_Code c_Book x_DueError x_BadCount x_TooMany x_BadRule x_BadPower w, ?_⟩⟩
  generalize hg : tab c_Code c_Book x_DueError x_BadCount x_TooMany x_BadRule x_BadPower w = g
  have hwd : g.wd = w := by rw [← hg]; rfl
  have ca_Code : g.ca 0 = c_Code := by rw [← hg]; rfl
  have cf_Code : g.cf 0 = (["book", "people", "powers", "n"] : List Str) := by rw [← hg]; rfl
  have ca_Book : g.ca 1 = c_Book := by rw [← hg]; rfl
  have cf_Book : g.cf 1 = (["n", "rules"] : List Str) := by rw [← hg]; rfl
  have xa_DueError : g.xa 0 = x_DueError := by rw [← hg]; rfl
  have xf_DueError : g.xf 0 = ([] : List Str) := by rw [← hg]; rfl
  have xa_BadCount : g.xa 1 = x_BadCount := by rw [← hg]; rfl
  have xf_BadCount : g.xf 1 = (["number"] : List Str) := by rw [← hg]; rfl
  have xa_TooMany : g.xa 2 = x_TooMany := by rw [← hg]; rfl
  have xf_TooMany : g.xf 2 = (["limit"] : List Str) := by rw [← hg]; rfl
  have xa_BadRule : g.xa 3 = x_BadRule := by rw [← hg]; rfl
  have xf_BadRule : g.xf 3 = (["number"] : List Str) := by rw [← hg]; rfl
  have xa_BadPower : g.xa 4 = x_BadPower := by rw [← hg]; rfl
  have xf_BadPower : g.xf 4 = (["number"] : List Str) := by rw [← hg]; rfl
  have Cl_Code : Cls K (g.ca 0) := by rw [ca_Code]; exact ⟨pg_Code, hd_Code, po_Code, sa_Code⟩
  have Cl_Book : Cls K (g.ca 1) := by rw [ca_Book]; exact ⟨pg_Book, hd_Book, po_Book, sa_Book⟩
  have Su_BadCount : FxS.SupTxt PySem.Challenge.pw_powersanddays_k00_codes_made_and_refused K mg "BadCount" "number" (g.xa 1) fi_BadCount := by
    rw [xa_BadCount]
    exact { gC := PySem.W.mg_of X G a_BadCount, cls := ⟨_, _, _, _, _, _, _, _, _, _, _, _, _, _, _, xl_BadCount, xb_BadCount⟩, sa := xsa_BadCount, noN := xn_BadCount_number, iC := xi_BadCount, tC := xft_BadCount, kC := xk_BadCount, exC := xs_BadCount, tyC := xt_BadCount, ve := xve_BadCount, sup := xsu_BadCount, tp := tpany, own := xo_BadCount, nsup := PySem.W.mg_none_of X G g0_super, fn := ⟨sx_BadCount, _, _, _, _, _, _, _, _, _, _, _, _, _, _, _, _, _, _, _, _, _, _, _, _, _, _, _, _, _, _, _, _, _, _, xfl_BadCount, xcd_BadCount, xcl2_BadCount, xvs_BadCount, xfi_BadCount, xce_BadCount, rfl, rfl, rfl, rfl, rfl, rfl, by decide +kernel, by decide +kernel, by decide +kernel, by decide +kernel, by decide +kernel, by decide +kernel, by decide +kernel, fun _ _ => rfl⟩, top := by decide +kernel }
  have Su_BadPower : FxS.SupTxt PySem.Challenge.pw_powersanddays_k00_codes_made_and_refused K mg "BadPower" "number" (g.xa 4) fi_BadPower := by
    rw [xa_BadPower]
    exact { gC := PySem.W.mg_of X G a_BadPower, cls := ⟨_, _, _, _, _, _, _, _, _, _, _, _, _, _, _, xl_BadPower, xb_BadPower⟩, sa := xsa_BadPower, noN := xn_BadPower_number, iC := xi_BadPower, tC := xft_BadPower, kC := xk_BadPower, exC := xs_BadPower, tyC := xt_BadPower, ve := xve_BadPower, sup := xsu_BadPower, tp := tpany, own := xo_BadPower, nsup := PySem.W.mg_none_of X G g0_super, fn := ⟨sx_BadPower, _, _, _, _, _, _, _, _, _, _, _, _, _, _, _, _, _, _, _, _, _, _, _, _, _, _, _, _, _, _, _, _, _, _, xfl_BadPower, xcd_BadPower, xcl2_BadPower, xvs_BadPower, xfi_BadPower, xce_BadPower, rfl, rfl, rfl, rfl, rfl, rfl, by decide +kernel, by decide +kernel, by decide +kernel, by decide +kernel, by decide +kernel, by decide +kernel, by decide +kernel, fun _ _ => rfl⟩, top := by decide +kernel }
  have Su_BadRule : FxS.SupTxt PySem.Challenge.pw_powersanddays_k00_codes_made_and_refused K mg "BadRule" "number" (g.xa 3) fi_BadRule := by
    rw [xa_BadRule]
    exact { gC := PySem.W.mg_of X G a_BadRule, cls := ⟨_, _, _, _, _, _, _, _, _, _, _, _, _, _, _, xl_BadRule, xb_BadRule⟩, sa := xsa_BadRule, noN := xn_BadRule_number, iC := xi_BadRule, tC := xft_BadRule, kC := xk_BadRule, exC := xs_BadRule, tyC := xt_BadRule, ve := xve_BadRule, sup := xsu_BadRule, tp := tpany, own := xo_BadRule, nsup := PySem.W.mg_none_of X G g0_super, fn := ⟨sx_BadRule, _, _, _, _, _, _, _, _, _, _, _, _, _, _, _, _, _, _, _, _, _, _, _, _, _, _, _, _, _, _, _, _, _, _, xfl_BadRule, xcd_BadRule, xcl2_BadRule, xvs_BadRule, xfi_BadRule, xce_BadRule, rfl, rfl, rfl, rfl, rfl, rfl, by decide +kernel, by decide +kernel, by decide +kernel, by decide +kernel, by decide +kernel, by decide +kernel, by decide +kernel, fun _ _ => rfl⟩, top := by decide +kernel }
  have Su_TooMany : FxS.SupTxt PySem.Challenge.pw_powersanddays_k00_codes_made_and_refused K mg "TooMany" "limit" (g.xa 2) fi_TooMany := by
    rw [xa_TooMany]
    exact { gC := PySem.W.mg_of X G a_TooMany, cls := ⟨_, _, _, _, _, _, _, _, _, _, _, _, _, _, _, xl_TooMany, xb_TooMany⟩, sa := xsa_TooMany, noN := xn_TooMany_limit, iC := xi_TooMany, tC := xft_TooMany, kC := xk_TooMany, exC := xs_TooMany, tyC := xt_TooMany, ve := xve_TooMany, sup := xsu_TooMany, tp := tpany, own := xo_TooMany, nsup := PySem.W.mg_none_of X G g0_super, fn := ⟨sx_TooMany, _, _, _, _, _, _, _, _, _, _, _, _, _, _, _, _, _, _, _, _, _, _, _, _, _, _, _, _, _, _, _, _, _, _, xfl_TooMany, xcd_TooMany, xcl2_TooMany, xvs_TooMany, xfi_TooMany, xce_TooMany, rfl, rfl, rfl, rfl, rfl, rfl, by decide +kernel, by decide +kernel, by decide +kernel, by decide +kernel, by decide +kernel, by decide +kernel, by decide +kernel, fun _ _ => rfl⟩, top := by decide +kernel }
  have F__law_cell := fun_mk (st := s__law_cell) l__law_cell cc__law_cell kk__law_cell
  have B__law_cell := F__law_cell.binds (ps := ["script", "k"]) fun _ _ _ _ _ _ us hl => match us, hl with | [_, _], _ => rfl
  have ok__law_cell := fn_run (g := g) (P := PySem.Challenge.pw_powersanddays_k00_codes_made_and_refused) (w := w) (base := base) (k := 0) (n := 40) F__law_cell sc__law_cell hwd bi (body := b__law_cell) ch__law_cell (by
      simp only [b__law_cell, GoodSs, GoodS, GoodE, GoodEs, and_true, true_and, List.length_cons, List.length_nil, Nat.zero_add, Nat.reduceAdd])
  have F__law_numbers := fun_mk (st := s__law_numbers) l__law_numbers cc__law_numbers kk__law_numbers
  have B__law_numbers := F__law_numbers.binds (ps := ["script", "at", "count", "radix"]) fun _ _ _ _ _ _ us hl => match us, hl with | [_, _, _, _], _ => rfl
  have ok__law_numbers := fn_run (g := g) (P := PySem.Challenge.pw_powersanddays_k00_codes_made_and_refused) (w := w) (base := base) (k := 1) (n := 40) F__law_numbers sc__law_numbers hwd bi (body := b__law_numbers) ch__law_numbers (by
      have q0 : NeedP g PySem.Challenge.pw_powersanddays_k00_codes_made_and_refused w K mg base 1 (.call "_law_cell" _law_cell) := need_call ok__law_cell (by omega) (PySem.W.mg_of X G a__law_cell) kk__law_cell B__law_cell
      simp only [b__law_numbers, lp__law_numbers_1, GoodSs, GoodS, GoodE, GoodEs, and_true, true_and, List.length_cons, List.length_nil, Nat.zero_add, Nat.reduceAdd]
      repeat' (first | assumption | apply And.intro))
  have F__law_rules := fun_mk (st := s__law_rules) l__law_rules cc__law_rules kk__law_rules
  have B__law_rules := F__law_rules.binds (ps := ["script", "at", "n", "count", "facts"]) fun _ _ _ _ _ _ us hl => match us, hl with | [_, _, _, _, _], _ => rfl
  have ok__law_rules := fn_run (g := g) (P := PySem.Challenge.pw_powersanddays_k00_codes_made_and_refused) (w := w) (base := base) (k := 2) (n := 40) F__law_rules sc__law_rules hwd bi (body := b__law_rules) ch__law_rules (by
      have q0 : NeedP g PySem.Challenge.pw_powersanddays_k00_codes_made_and_refused w K mg base 2 (.call "_law_numbers" _law_numbers) := need_call ok__law_numbers (by omega) (PySem.W.mg_of X G a__law_numbers) kk__law_numbers B__law_numbers
      simp only [b__law_rules, lp__law_rules_1, GoodSs, GoodS, GoodE, GoodEs, and_true, true_and, List.length_cons, List.length_nil, Nat.zero_add, Nat.reduceAdd]
      repeat' (first | assumption | apply And.intro))
  have F__law_powers := fun_mk (st := s__law_powers) l__law_powers cc__law_powers kk__law_powers
  have B__law_powers := F__law_powers.binds (ps := ["script", "at", "n", "size", "people", "count"]) fun _ _ _ _ _ _ us hl => match us, hl with | [_, _, _, _, _, _], _ => rfl
  have ok__law_powers := fn_run (g := g) (P := PySem.Challenge.pw_powersanddays_k00_codes_made_and_refused) (w := w) (base := base) (k := 2) (n := 40) F__law_powers sc__law_powers hwd bi (body := b__law_powers) ch__law_powers (by
      have q0 : NeedP g PySem.Challenge.pw_powersanddays_k00_codes_made_and_refused w K mg base 2 (.call "_law_numbers" _law_numbers) := need_call ok__law_numbers (by omega) (PySem.W.mg_of X G a__law_numbers) kk__law_numbers B__law_numbers
      simp only [b__law_powers, lp__law_powers_1, GoodSs, GoodS, GoodE, GoodEs, and_true, true_and, List.length_cons, List.length_nil, Nat.zero_add, Nat.reduceAdd]
      repeat' (first | assumption | apply And.intro))
  have F__law_spoiled := fun_mk (st := s__law_spoiled) l__law_spoiled cc__law_spoiled kk__law_spoiled
  have B__law_spoiled := F__law_spoiled.binds (ps := ["n", "size", "people", "power", "way"]) fun _ _ _ _ _ _ us hl => match us, hl with | [_, _, _, _, _], _ => rfl
  have ok__law_spoiled := fn_run (g := g) (P := PySem.Challenge.pw_powersanddays_k00_codes_made_and_refused) (w := w) (base := base) (k := 0) (n := 40) F__law_spoiled sc__law_spoiled hwd bi (body := b__law_spoiled) ch__law_spoiled (by
      simp only [b__law_spoiled, GoodSs, GoodS, GoodE, GoodEs, and_true, true_and, List.length_cons, List.length_nil, Nat.zero_add, Nat.reduceAdd])
  have F_everything := fun_mk (st := s_everything) l_everything cc_everything kk_everything
  have B_everything := F_everything.binds (ps := ["n"]) fun _ _ _ _ _ _ us hl => match us, hl with | [_], _ => rfl
  have ok_everything := fn_run (g := g) (P := PySem.Challenge.pw_powersanddays_k00_codes_made_and_refused) (w := w) (base := base) (k := 0) (n := 40) F_everything sc_everything hwd bi (body := b_everything) ch_everything (by
      simp only [b_everything, GoodSs, GoodS, GoodE, GoodEs, and_true, true_and, List.length_cons, List.length_nil, Nat.zero_add, Nat.reduceAdd])
  have F_is_prop := fun_mk (st := s_is_prop) l_is_prop cc_is_prop kk_is_prop
  have B_is_prop := F_is_prop.binds (ps := ["n", "prop"]) fun _ _ _ _ _ _ us hl => match us, hl with | [_, _], _ => rfl
  have ok_is_prop := fn_run (g := g) (P := PySem.Challenge.pw_powersanddays_k00_codes_made_and_refused) (w := w) (base := base) (k := 1) (n := 40) F_is_prop sc_is_prop hwd bi (body := b_is_prop) ch_is_prop (by
      have q0 : NeedP g PySem.Challenge.pw_powersanddays_k00_codes_made_and_refused w K mg base 1 (.call "everything" everything) := need_call ok_everything (by omega) (PySem.W.mg_of X G a_everything) kk_everything B_everything
      simp only [b_is_prop, GoodSs, GoodS, GoodE, GoodEs, and_true, true_and, List.length_cons, List.length_nil, Nat.zero_add, Nat.reduceAdd]
      repeat' (first | assumption | apply And.intro))
  have F_Book___init__ := fun_mk (st := s_Book___init__) l_Book___init__ cc_Book___init__ kk_Book___init__
  have B_Book___init__ := F_Book___init__.binds (ps := ["self", "n", "rules"]) fun _ _ _ _ _ _ us hl => match us, hl with | [_, _, _], _ => rfl
  have ok_Book___init__ := init_run (g := g) (P := PySem.Challenge.pw_powersanddays_k00_codes_made_and_refused) (w := w) (base := base) (k := 2) (n := 40) (C := 1) F_Book___init__ sc_Book___init__ hwd bi (body := b_Book___init__) ch_Book___init__ (by
      have q0 : NeedP g PySem.Challenge.pw_powersanddays_k00_codes_made_and_refused w K mg base 2 (.ccon "Book" 1 "MOST_LETTERS" (.int 4)) := need_ccon (v := .int 4) (by rw [ca_Book]; exact PySem.W.mg_of X G a_Book) (by rw [ca_Book]; exact ⟨rd_Book, ga_Book⟩) (by rw [ca_Book]; exact ⟨cv_Book_MOST_LETTERS, ⟨_, rfl⟩⟩) fun F => Rep.mkI _
      have q1 : NeedP g PySem.Challenge.pw_powersanddays_k00_codes_made_and_refused w K mg base 2 (.rse "BadCount" 1 1) := need_rse Su_BadCount xf_BadCount (by decide +kernel)
      have q2 : NeedP g PySem.Challenge.pw_powersanddays_k00_codes_made_and_refused w K mg base 2 (.ccon "Book" 1 "MOST_RULES" (.int 16)) := need_ccon (v := .int 16) (by rw [ca_Book]; exact PySem.W.mg_of X G a_Book) (by rw [ca_Book]; exact ⟨rd_Book, ga_Book⟩) (by rw [ca_Book]; exact ⟨cv_Book_MOST_RULES, ⟨_, rfl⟩⟩) fun F => Rep.mkI _
      have q3 : NeedP g PySem.Challenge.pw_powersanddays_k00_codes_made_and_refused w K mg base 2 (.rse "TooMany" 2 1) := need_rse Su_TooMany xf_TooMany (by decide +kernel)
      have q4 : NeedP g PySem.Challenge.pw_powersanddays_k00_codes_made_and_refused w K mg base 2 (.call "is_prop" is_prop) := need_call ok_is_prop (by omega) (PySem.W.mg_of X G a_is_prop) kk_is_prop B_is_prop
      have q5 : NeedP g PySem.Challenge.pw_powersanddays_k00_codes_made_and_refused w K mg base 2 (.rse "BadRule" 3 1) := need_rse Su_BadRule xf_BadRule (by decide +kernel)
      have q6 : NeedP g PySem.Challenge.pw_powersanddays_k00_codes_made_and_refused w K mg base 2 (.fldS 1 0 "n") := need_fldS Cl_Book (by rw [ca_Book]; exact n_Book_n) (by rw [cf_Book]; rfl) (by rw [cf_Book]; decide +kernel) (by rw [cf_Book]; decide)
      have q7 : NeedP g PySem.Challenge.pw_powersanddays_k00_codes_made_and_refused w K mg base 2 (.fldS 1 1 "rules") := need_fldS Cl_Book (by rw [ca_Book]; exact n_Book_rules) (by rw [cf_Book]; rfl) (by rw [cf_Book]; decide +kernel) (by rw [cf_Book]; decide)
      simp only [b_Book___init__, lp_Book___init___1, GoodSs, GoodS, GoodE, GoodEs, and_true, true_and, List.length_cons, List.length_nil, Nat.zero_add, Nat.reduceAdd]
      repeat' (first | assumption | apply And.intro))
  have F__law_expected := fun_mk (st := s__law_expected) l__law_expected cc__law_expected kk__law_expected
  have B__law_expected := F__law_expected.binds (ps := ["size", "people", "powers", "wrong"]) fun _ _ _ _ _ _ us hl => match us, hl with | [_, _, _, _], _ => rfl
  have ok__law_expected := fn_run (g := g) (P := PySem.Challenge.pw_powersanddays_k00_codes_made_and_refused) (w := w) (base := base) (k := 0) (n := 40) F__law_expected sc__law_expected hwd bi (body := b__law_expected) ch__law_expected (by
      have q0 : NeedP g PySem.Challenge.pw_powersanddays_k00_codes_made_and_refused w K mg base 0 (.call "min" minS) := need_min hwd (PySem.W.mg_none_of X G g0_min)
      simp only [b__law_expected, GoodSs, GoodS, GoodE, GoodEs, and_true, true_and, List.length_cons, List.length_nil, Nat.zero_add, Nat.reduceAdd]
      repeat' (first | assumption | apply And.intro))
  have F__law_same := fun_mk (st := s__law_same) l__law_same cc__law_same kk__law_same
  have B__law_same := F__law_same.binds (ps := ["told", "expected"]) fun _ _ _ _ _ _ us hl => match us, hl with | [_, _], _ => rfl
  have ok__law_same := fn_rec (g := g) (P := PySem.Challenge.pw_powersanddays_k00_codes_made_and_refused) (w := w) (base := base) (k := 0) F__law_same (r := r__law_same) rfl (fun n ih => by
      have q0 : NeedP g PySem.Challenge.pw_powersanddays_k00_codes_made_and_refused w K mg base (0 + n) (.call "_law_same" (r__law_same n)) := need_call ih (by omega) (PySem.W.mg_of X G a__law_same) kk__law_same B__law_same
      have q99 : NeedP g PySem.Challenge.pw_powersanddays_k00_codes_made_and_refused w K mg base (0 + n) (.isi .bool) := need_isi rfl (PySem.W.mg_none_of X G g0_isinstance) (PySem.W.mg_none_of X G g0_bool)
      have q1 : NeedP g PySem.Challenge.pw_powersanddays_k00_codes_made_and_refused w K mg base (0 + n) (.isi .int) := need_isi rfl (PySem.W.mg_none_of X G g0_isinstance) (PySem.W.mg_none_of X G g0_int)
      have q2 : NeedP g PySem.Challenge.pw_powersanddays_k00_codes_made_and_refused w K mg base (0 + n) (.isi .str) := need_isi rfl (PySem.W.mg_none_of X G g0_isinstance) (PySem.W.mg_none_of X G g0_str)
      have q3 : NeedP g PySem.Challenge.pw_powersanddays_k00_codes_made_and_refused w K mg base (0 + n) (.isi .tuple) := need_isi rfl (PySem.W.mg_none_of X G g0_isinstance) (PySem.W.mg_none_of X G g0_tuple)
      have q4 : NeedP g PySem.Challenge.pw_powersanddays_k00_codes_made_and_refused w K mg base (0 + n) (.isi .list) := need_isi rfl (PySem.W.mg_none_of X G g0_isinstance) (PySem.W.mg_none_of X G g0_list)
      refine fn_run (n := 40) F__law_same sc__law_same hwd bi (body := b__law_same (r__law_same n)) (ch__law_same _) ?_
      simp only [b__law_same, GoodSs, GoodS, GoodE, GoodEs, and_true, true_and, List.length_cons, List.length_nil]
      repeat' (first | assumption | apply And.intro)) 6
  have F_Book_size := fun_mk (st := s_Book_size) l_Book_size cc_Book_size kk_Book_size
  have B_Book_size := F_Book_size.binds (ps := ["self"]) fun _ _ _ _ _ _ us hl => match us, hl with | [_], _ => rfl
  have ok_Book_size := fn_run (g := g) (P := PySem.Challenge.pw_powersanddays_k00_codes_made_and_refused) (w := w) (base := base) (k := 0) (n := 40) F_Book_size sc_Book_size hwd bi (body := b_Book_size) ch_Book_size (by
      have q0 : NeedP g PySem.Challenge.pw_powersanddays_k00_codes_made_and_refused w K mg base 0 (.fld 1 1 "rules") := need_fld Cl_Book (by rw [ca_Book]; exact n_Book_rules) (by rw [cf_Book]; rfl) (by rw [cf_Book]; decide +kernel)
      simp only [b_Book_size, GoodSs, GoodS, GoodE, GoodEs, and_true, true_and, List.length_cons, List.length_nil, Nat.zero_add, Nat.reduceAdd]
      repeat' (first | assumption | apply And.intro))
  have F_is_act := fun_mk (st := s_is_act) l_is_act cc_is_act kk_is_act
  have B_is_act := F_is_act.binds (ps := ["book", "act"]) fun _ _ _ _ _ _ us hl => match us, hl with | [_, _], _ => rfl
  have ok_is_act := fn_run (g := g) (P := PySem.Challenge.pw_powersanddays_k00_codes_made_and_refused) (w := w) (base := base) (k := 2) (n := 40) F_is_act sc_is_act hwd bi (body := b_is_act) ch_is_act (by
      have q0 : NeedP g PySem.Challenge.pw_powersanddays_k00_codes_made_and_refused w K mg base 2 (.call "is_prop" is_prop) := need_call ok_is_prop (by omega) (PySem.W.mg_of X G a_is_prop) kk_is_prop B_is_prop
      have q1 : NeedP g PySem.Challenge.pw_powersanddays_k00_codes_made_and_refused w K mg base 2 (.fld 1 0 "n") := need_fld Cl_Book (by rw [ca_Book]; exact n_Book_n) (by rw [cf_Book]; rfl) (by rw [cf_Book]; decide +kernel)
      have q2 : NeedP g PySem.Challenge.pw_powersanddays_k00_codes_made_and_refused w K mg base 2 (.prop 1 "size" Book_size) := need_prop ok_Book_size (by omega) Cl_Book (by rw [ca_Book]; exact ⟨a_Book_size, pg1_Book_size, pt_Book_size, ⟨_, pr_Book_size⟩⟩) B_Book_size
      simp only [b_is_act, GoodSs, GoodS, GoodE, GoodEs, and_true, true_and, List.length_cons, List.length_nil, Nat.zero_add, Nat.reduceAdd]
      repeat' (first | assumption | apply And.intro))
  have F_is_power := fun_mk (st := s_is_power) l_is_power cc_is_power kk_is_power
  have B_is_power := F_is_power.binds (ps := ["book", "people", "power"]) fun _ _ _ _ _ _ us hl => match us, hl with | [_, _, _], _ => rfl
  have ok_is_power := fn_run (g := g) (P := PySem.Challenge.pw_powersanddays_k00_codes_made_and_refused) (w := w) (base := base) (k := 3) (n := 40) F_is_power sc_is_power hwd bi (body := b_is_power) ch_is_power (by
      have q0 : NeedP g PySem.Challenge.pw_powersanddays_k00_codes_made_and_refused w K mg base 3 (.gcon "NEEDS" (.tup [(.str "so"), (.str "due")])) := need_gcon (v := .ref ad_NEEDS) (PySem.W.mg_of X G gc_NEEDS) rfl fun F => rep_ktup gt_NEEDS (by simp) (.cons (show L2.RelV (.str "so") (.str "so" tk_NEEDS_0) from ⟨_, rfl⟩) (.cons (show L2.RelV (.str "due") (.str "due" tk_NEEDS_1) from ⟨_, rfl⟩) (.nil))) (.cons (show Rep K g F (.str "so") (.str "so") from by simp only [Rep]) (.cons (show Rep K g F (.str "due") (.str "due") from by simp only [Rep]) (.nil)))
      have q1 : NeedP g PySem.Challenge.pw_powersanddays_k00_codes_made_and_refused w K mg base 3 (.call "is_prop" is_prop) := need_call ok_is_prop (by omega) (PySem.W.mg_of X G a_is_prop) kk_is_prop B_is_prop
      have q2 : NeedP g PySem.Challenge.pw_powersanddays_k00_codes_made_and_refused w K mg base 3 (.fld 1 0 "n") := need_fld Cl_Book (by rw [ca_Book]; exact n_Book_n) (by rw [cf_Book]; rfl) (by rw [cf_Book]; decide +kernel)
      have q3 : NeedP g PySem.Challenge.pw_powersanddays_k00_codes_made_and_refused w K mg base 3 (.call "is_act" is_act) := need_call ok_is_act (by omega) (PySem.W.mg_of X G a_is_act) kk_is_act B_is_act
      simp only [b_is_power, GoodSs, GoodS, GoodE, GoodEs, and_true, true_and, List.length_cons, List.length_nil, Nat.zero_add, Nat.reduceAdd]
      repeat' (first | assumption | apply And.intro))
  have F_Code___init__ := fun_mk (st := s_Code___init__) l_Code___init__ cc_Code___init__ kk_Code___init__
  have B_Code___init__ := F_Code___init__.binds (ps := ["self", "book", "people", "powers"]) fun _ _ _ _ _ _ us hl => match us, hl with | [_, _, _, _], _ => rfl
  have ok_Code___init__ := init_run (g := g) (P := PySem.Challenge.pw_powersanddays_k00_codes_made_and_refused) (w := w) (base := base) (k := 4) (n := 40) (C := 0) F_Code___init__ sc_Code___init__ hwd bi (body := b_Code___init__) ch_Code___init__ (by
      have q0 : NeedP g PySem.Challenge.pw_powersanddays_k00_codes_made_and_refused w K mg base 4 (.prop 1 "size" Book_size) := need_prop ok_Book_size (by omega) Cl_Book (by rw [ca_Book]; exact ⟨a_Book_size, pg1_Book_size, pt_Book_size, ⟨_, pr_Book_size⟩⟩) B_Book_size
      have q1 : NeedP g PySem.Challenge.pw_powersanddays_k00_codes_made_and_refused w K mg base 4 (.gcon "BASE_LIMIT" (.int 9)) := need_gcon (v := .int 9) (PySem.W.mg_of X G gc_BASE_LIMIT) ⟨_, rfl⟩ fun F => Rep.mkI _
      have q2 : NeedP g PySem.Challenge.pw_powersanddays_k00_codes_made_and_refused w K mg base 4 (.rse "TooMany" 2 1) := need_rse Su_TooMany xf_TooMany (by decide +kernel)
      have q3 : NeedP g PySem.Challenge.pw_powersanddays_k00_codes_made_and_refused w K mg base 4 (.gcon "PEOPLE_LIMIT" (.int 5)) := need_gcon (v := .int 5) (PySem.W.mg_of X G gc_PEOPLE_LIMIT) ⟨_, rfl⟩ fun F => Rep.mkI _
      have q4 : NeedP g PySem.Challenge.pw_powersanddays_k00_codes_made_and_refused w K mg base 4 (.rse "BadCount" 1 1) := need_rse Su_BadCount xf_BadCount (by decide +kernel)
      have q5 : NeedP g PySem.Challenge.pw_powersanddays_k00_codes_made_and_refused w K mg base 4 (.gcon "POWER_LIMIT" (.int 7)) := need_gcon (v := .int 7) (PySem.W.mg_of X G gc_POWER_LIMIT) ⟨_, rfl⟩ fun F => Rep.mkI _
      have q6 : NeedP g PySem.Challenge.pw_powersanddays_k00_codes_made_and_refused w K mg base 4 (.call "is_power" is_power) := need_call ok_is_power (by omega) (PySem.W.mg_of X G a_is_power) kk_is_power B_is_power
      have q7 : NeedP g PySem.Challenge.pw_powersanddays_k00_codes_made_and_refused w K mg base 4 (.rse "BadPower" 4 1) := need_rse Su_BadPower xf_BadPower (by decide +kernel)
      have q8 : NeedP g PySem.Challenge.pw_powersanddays_k00_codes_made_and_refused w K mg base 4 (.fldS 0 0 "book") := need_fldS Cl_Code (by rw [ca_Code]; exact n_Code_book) (by rw [cf_Code]; rfl) (by rw [cf_Code]; decide +kernel) (by rw [cf_Code]; decide)
      have q9 : NeedP g PySem.Challenge.pw_powersanddays_k00_codes_made_and_refused w K mg base 4 (.fldS 0 1 "people") := need_fldS Cl_Code (by rw [ca_Code]; exact n_Code_people) (by rw [cf_Code]; rfl) (by rw [cf_Code]; decide +kernel) (by rw [cf_Code]; decide)
      have q10 : NeedP g PySem.Challenge.pw_powersanddays_k00_codes_made_and_refused w K mg base 4 (.fldS 0 2 "powers") := need_fldS Cl_Code (by rw [ca_Code]; exact n_Code_powers) (by rw [cf_Code]; rfl) (by rw [cf_Code]; decide +kernel) (by rw [cf_Code]; decide)
      have q11 : NeedP g PySem.Challenge.pw_powersanddays_k00_codes_made_and_refused w K mg base 4 (.fldS 0 3 "n") := need_fldS Cl_Code (by rw [ca_Code]; exact n_Code_n) (by rw [cf_Code]; rfl) (by rw [cf_Code]; decide +kernel) (by rw [cf_Code]; decide)
      have q12 : NeedP g PySem.Challenge.pw_powersanddays_k00_codes_made_and_refused w K mg base 4 (.fld 1 0 "n") := need_fld Cl_Book (by rw [ca_Book]; exact n_Book_n) (by rw [cf_Book]; rfl) (by rw [cf_Book]; decide +kernel)
      simp only [b_Code___init__, lp_Code___init___1, GoodSs, GoodS, GoodE, GoodEs, and_true, true_and, List.length_cons, List.length_nil, Nat.zero_add, Nat.reduceAdd]
      repeat' (first | assumption | apply And.intro))
  have F__law_tried := fun_mk (st := s__law_tried) l__law_tried cc__law_tried kk__law_tried
  have B__law_tried := F__law_tried.binds (ps := ["book", "people", "powers"]) fun _ _ _ _ _ _ us hl => match us, hl with | [_, _, _], _ => rfl
  have ok__law_tried := fn_run (g := g) (P := PySem.Challenge.pw_powersanddays_k00_codes_made_and_refused) (w := w) (base := base) (k := 6) (n := 40) F__law_tried sc__law_tried hwd bi (body := b__law_tried) ch__law_tried (by
      have q0 : NeedP g PySem.Challenge.pw_powersanddays_k00_codes_made_and_refused w K mg base 6 (.catch_ "DueError" 0 [(0, true), (1, true), (2, true), (3, true), (4, true)]) := need_catch (by rw [xa_DueError]; exact PySem.W.mg_of X G a_DueError) (tabAll (.cons (by rw [xa_DueError]; exact exm_of xs_DueError xic_DueError xt_DueError sb_DueError_DueError) (.cons (by rw [xa_BadCount, xa_DueError]; exact exm_of xs_DueError xic_DueError xt_DueError sb_BadCount_DueError) (.cons (by rw [xa_TooMany, xa_DueError]; exact exm_of xs_DueError xic_DueError xt_DueError sb_TooMany_DueError) (.cons (by rw [xa_BadRule, xa_DueError]; exact exm_of xs_DueError xic_DueError xt_DueError sb_BadRule_DueError) (.cons (by rw [xa_BadPower, xa_DueError]; exact exm_of xs_DueError xic_DueError xt_DueError sb_BadPower_DueError) .nil))))))
      have q1 : NeedP g PySem.Challenge.pw_powersanddays_k00_codes_made_and_refused w K mg base 6 (.new "Code" 0 Code___init__) := need_new ok_Code___init__ (by omega) (by rw [ca_Code]; exact PySem.W.mg_of X G a_Code) (by rw [ca_Code]; exact ⟨mk_Code, a_Code___init__, i_Code___init__, kc_Code⟩) B_Code___init__ runInit_own
      have q2 : NeedP g PySem.Challenge.pw_powersanddays_k00_codes_made_and_refused w K mg base 6 (.xis "TooMany" 2 [(0, false), (1, false), (2, true), (3, false), (4, false)]) := need_xis (by rw [xa_TooMany]; exact PySem.W.mg_of X G a_TooMany) (tabAll (.cons (by rw [xa_DueError, xa_TooMany]; exact ⟨⟨⟨xga_DueError, xgg_DueError, xs_DueError, xh_DueError, xcl_DueError, sgc, tkc, xm_DueError⟩, xic_DueError⟩, kit_of xic_TooMany xt_TooMany sb_DueError_TooMany sb_TooMany_TooMany⟩) (.cons (by rw [xa_BadCount, xa_TooMany]; exact ⟨⟨⟨xga_BadCount, xgg_BadCount, xs_BadCount, xh_BadCount, xcl_BadCount, sgc, tkc, xm_BadCount⟩, xic_BadCount⟩, kit_of xic_TooMany xt_TooMany sb_BadCount_TooMany sb_TooMany_TooMany⟩) (.cons (by rw [xa_TooMany]; exact ⟨⟨⟨xga_TooMany, xgg_TooMany, xs_TooMany, xh_TooMany, xcl_TooMany, sgc, tkc, xm_TooMany⟩, xic_TooMany⟩, kit_of xic_TooMany xt_TooMany sb_TooMany_TooMany sb_TooMany_TooMany⟩) (.cons (by rw [xa_BadRule, xa_TooMany]; exact ⟨⟨⟨xga_BadRule, xgg_BadRule, xs_BadRule, xh_BadRule, xcl_BadRule, sgc, tkc, xm_BadRule⟩, xic_BadRule⟩, kit_of xic_TooMany xt_TooMany sb_BadRule_TooMany sb_TooMany_TooMany⟩) (.cons (by rw [xa_BadPower, xa_TooMany]; exact ⟨⟨⟨xga_BadPower, xgg_BadPower, xs_BadPower, xh_BadPower, xcl_BadPower, sgc, tkc, xm_BadPower⟩, xic_BadPower⟩, kit_of xic_TooMany xt_TooMany sb_BadPower_TooMany sb_TooMany_TooMany⟩) .nil))))))
      have q3 : NeedP g PySem.Challenge.pw_powersanddays_k00_codes_made_and_refused w K mg base 6 (.xis "BadCount" 1 [(0, false), (1, true), (2, false), (3, false), (4, false)]) := need_xis (by rw [xa_BadCount]; exact PySem.W.mg_of X G a_BadCount) (tabAll (.cons (by rw [xa_DueError, xa_BadCount]; exact ⟨⟨⟨xga_DueError, xgg_DueError, xs_DueError, xh_DueError, xcl_DueError, sgc, tkc, xm_DueError⟩, xic_DueError⟩, kit_of xic_BadCount xt_BadCount sb_DueError_BadCount sb_BadCount_BadCount⟩) (.cons (by rw [xa_BadCount]; exact ⟨⟨⟨xga_BadCount, xgg_BadCount, xs_BadCount, xh_BadCount, xcl_BadCount, sgc, tkc, xm_BadCount⟩, xic_BadCount⟩, kit_of xic_BadCount xt_BadCount sb_BadCount_BadCount sb_BadCount_BadCount⟩) (.cons (by rw [xa_TooMany, xa_BadCount]; exact ⟨⟨⟨xga_TooMany, xgg_TooMany, xs_TooMany, xh_TooMany, xcl_TooMany, sgc, tkc, xm_TooMany⟩, xic_TooMany⟩, kit_of xic_BadCount xt_BadCount sb_TooMany_BadCount sb_BadCount_BadCount⟩) (.cons (by rw [xa_BadRule, xa_BadCount]; exact ⟨⟨⟨xga_BadRule, xgg_BadRule, xs_BadRule, xh_BadRule, xcl_BadRule, sgc, tkc, xm_BadRule⟩, xic_BadRule⟩, kit_of xic_BadCount xt_BadCount sb_BadRule_BadCount sb_BadCount_BadCount⟩) (.cons (by rw [xa_BadPower, xa_BadCount]; exact ⟨⟨⟨xga_BadPower, xgg_BadPower, xs_BadPower, xh_BadPower, xcl_BadPower, sgc, tkc, xm_BadPower⟩, xic_BadPower⟩, kit_of xic_BadCount xt_BadCount sb_BadPower_BadCount sb_BadCount_BadCount⟩) .nil))))))
      have q4 : NeedP g PySem.Challenge.pw_powersanddays_k00_codes_made_and_refused w K mg base 6 (.xis "BadPower" 4 [(0, false), (1, false), (2, false), (3, false), (4, true)]) := need_xis (by rw [xa_BadPower]; exact PySem.W.mg_of X G a_BadPower) (tabAll (.cons (by rw [xa_DueError, xa_BadPower]; exact ⟨⟨⟨xga_DueError, xgg_DueError, xs_DueError, xh_DueError, xcl_DueError, sgc, tkc, xm_DueError⟩, xic_DueError⟩, kit_of xic_BadPower xt_BadPower sb_DueError_BadPower sb_BadPower_BadPower⟩) (.cons (by rw [xa_BadCount, xa_BadPower]; exact ⟨⟨⟨xga_BadCount, xgg_BadCount, xs_BadCount, xh_BadCount, xcl_BadCount, sgc, tkc, xm_BadCount⟩, xic_BadCount⟩, kit_of xic_BadPower xt_BadPower sb_BadCount_BadPower sb_BadPower_BadPower⟩) (.cons (by rw [xa_TooMany, xa_BadPower]; exact ⟨⟨⟨xga_TooMany, xgg_TooMany, xs_TooMany, xh_TooMany, xcl_TooMany, sgc, tkc, xm_TooMany⟩, xic_TooMany⟩, kit_of xic_BadPower xt_BadPower sb_TooMany_BadPower sb_BadPower_BadPower⟩) (.cons (by rw [xa_BadRule, xa_BadPower]; exact ⟨⟨⟨xga_BadRule, xgg_BadRule, xs_BadRule, xh_BadRule, xcl_BadRule, sgc, tkc, xm_BadRule⟩, xic_BadRule⟩, kit_of xic_BadPower xt_BadPower sb_BadRule_BadPower sb_BadPower_BadPower⟩) (.cons (by rw [xa_BadPower]; exact ⟨⟨⟨xga_BadPower, xgg_BadPower, xs_BadPower, xh_BadPower, xcl_BadPower, sgc, tkc, xm_BadPower⟩, xic_BadPower⟩, kit_of xic_BadPower xt_BadPower sb_BadPower_BadPower sb_BadPower_BadPower⟩) .nil))))))
      have q5 : ∀ C j, List.lookup C ([(2, 0)] : List (Nat × Nat)) = some j → NeedP g PySem.Challenge.pw_powersanddays_k00_codes_made_and_refused w K mg base 6 (.xfld C j "limit") := (tabAll (.cons (need_xfld ⟨by rw [xa_TooMany]; exact ⟨xga_TooMany, xgg_TooMany, xs_TooMany, xh_TooMany⟩, by rw [xa_TooMany]; exact xn_TooMany_limit, by rw [xf_TooMany]; rfl, by rw [xf_TooMany]; decide +kernel⟩) .nil))
      have q6 : ∀ C j, List.lookup C ([(1, 0), (3, 0), (4, 0)] : List (Nat × Nat)) = some j → NeedP g PySem.Challenge.pw_powersanddays_k00_codes_made_and_refused w K mg base 6 (.xfld C j "number") := (tabAll (.cons (need_xfld ⟨by rw [xa_BadCount]; exact ⟨xga_BadCount, xgg_BadCount, xs_BadCount, xh_BadCount⟩, by rw [xa_BadCount]; exact xn_BadCount_number, by rw [xf_BadCount]; rfl, by rw [xf_BadCount]; decide +kernel⟩) (.cons (need_xfld ⟨by rw [xa_BadRule]; exact ⟨xga_BadRule, xgg_BadRule, xs_BadRule, xh_BadRule⟩, by rw [xa_BadRule]; exact xn_BadRule_number, by rw [xf_BadRule]; rfl, by rw [xf_BadRule]; decide +kernel⟩) (.cons (need_xfld ⟨by rw [xa_BadPower]; exact ⟨xga_BadPower, xgg_BadPower, xs_BadPower, xh_BadPower⟩, by rw [xa_BadPower]; exact xn_BadPower_number, by rw [xf_BadPower]; rfl, by rw [xf_BadPower]; decide +kernel⟩) .nil))))
      simp only [b__law_tried, GoodSs, GoodS, GoodE, GoodEs, and_true, true_and, List.length_cons, List.length_nil, Nat.zero_add, Nat.reduceAdd]
      repeat' (first | assumption | apply And.intro))
  have F_Code_size := fun_mk (st := s_Code_size) l_Code_size cc_Code_size kk_Code_size
  have B_Code_size := F_Code_size.binds (ps := ["self"]) fun _ _ _ _ _ _ us hl => match us, hl with | [_], _ => rfl
  have ok_Code_size := fn_run (g := g) (P := PySem.Challenge.pw_powersanddays_k00_codes_made_and_refused) (w := w) (base := base) (k := 0) (n := 40) F_Code_size sc_Code_size hwd bi (body := b_Code_size) ch_Code_size (by
      have q0 : NeedP g PySem.Challenge.pw_powersanddays_k00_codes_made_and_refused w K mg base 0 (.fld 0 2 "powers") := need_fld Cl_Code (by rw [ca_Code]; exact n_Code_powers) (by rw [cf_Code]; rfl) (by rw [cf_Code]; decide +kernel)
      simp only [b_Code_size, GoodSs, GoodS, GoodE, GoodEs, and_true, true_and, List.length_cons, List.length_nil, Nat.zero_add, Nat.reduceAdd]
      repeat' (first | assumption | apply And.intro))
  have F__law_is_code := fun_mk (st := s__law_is_code) l__law_is_code cc__law_is_code kk__law_is_code
  have B__law_is_code := F__law_is_code.binds (ps := ["code", "n", "rules", "people", "powers"]) fun _ _ _ _ _ _ us hl => match us, hl with | [_, _, _, _, _], _ => rfl
  have ok__law_is_code := fn_run (g := g) (P := PySem.Challenge.pw_powersanddays_k00_codes_made_and_refused) (w := w) (base := base) (k := 6) (n := 40) F__law_is_code sc__law_is_code hwd bi (body := b__law_is_code) ch__law_is_code (by
      have q0 : NeedP g PySem.Challenge.pw_powersanddays_k00_codes_made_and_refused w K mg base 6 (.isi (.cls 0 "Code")) := need_isiC (PySem.W.mg_none_of X G g0_isinstance) (by rw [ca_Code]; exact PySem.W.mg_of X G a_Code) Cl_Code (by rw [ca_Code]; exact icl_Code) sgc tkc (by rw [ca_Code]; exact im_Code)
      have q1 : NeedP g PySem.Challenge.pw_powersanddays_k00_codes_made_and_refused w K mg base 6 (.isi (.cls 1 "Book")) := need_isiC (PySem.W.mg_none_of X G g0_isinstance) (by rw [ca_Book]; exact PySem.W.mg_of X G a_Book) Cl_Book (by rw [ca_Book]; exact icl_Book) sgc tkc (by rw [ca_Book]; exact im_Book)
      have q2 : NeedP g PySem.Challenge.pw_powersanddays_k00_codes_made_and_refused w K mg base 6 (.fld 0 0 "book") := need_fld Cl_Code (by rw [ca_Code]; exact n_Code_book) (by rw [cf_Code]; rfl) (by rw [cf_Code]; decide +kernel)
      have q3 : NeedP g PySem.Challenge.pw_powersanddays_k00_codes_made_and_refused w K mg base 6 (.call "_law_same" _law_same) := need_call ok__law_same (by omega) (PySem.W.mg_of X G a__law_same) kk__law_same B__law_same
      have q4 : NeedP g PySem.Challenge.pw_powersanddays_k00_codes_made_and_refused w K mg base 6 (.fld 1 1 "rules") := need_fld Cl_Book (by rw [ca_Book]; exact n_Book_rules) (by rw [cf_Book]; rfl) (by rw [cf_Book]; decide +kernel)
      have q5 : NeedP g PySem.Challenge.pw_powersanddays_k00_codes_made_and_refused w K mg base 6 (.fld 1 0 "n") := need_fld Cl_Book (by rw [ca_Book]; exact n_Book_n) (by rw [cf_Book]; rfl) (by rw [cf_Book]; decide +kernel)
      have q6 : NeedP g PySem.Challenge.pw_powersanddays_k00_codes_made_and_refused w K mg base 6 (.fld 0 1 "people") := need_fld Cl_Code (by rw [ca_Code]; exact n_Code_people) (by rw [cf_Code]; rfl) (by rw [cf_Code]; decide +kernel)
      have q7 : NeedP g PySem.Challenge.pw_powersanddays_k00_codes_made_and_refused w K mg base 6 (.fld 0 3 "n") := need_fld Cl_Code (by rw [ca_Code]; exact n_Code_n) (by rw [cf_Code]; rfl) (by rw [cf_Code]; decide +kernel)
      have q8 : NeedP g PySem.Challenge.pw_powersanddays_k00_codes_made_and_refused w K mg base 6 (.fld 0 2 "powers") := need_fld Cl_Code (by rw [ca_Code]; exact n_Code_powers) (by rw [cf_Code]; rfl) (by rw [cf_Code]; decide +kernel)
      have q9 : NeedP g PySem.Challenge.pw_powersanddays_k00_codes_made_and_refused w K mg base 6 (.prop 0 "size" Code_size) := need_prop ok_Code_size (by omega) Cl_Code (by rw [ca_Code]; exact ⟨a_Code_size, pg1_Code_size, pt_Code_size, ⟨_, pr_Code_size⟩⟩) B_Code_size
      simp only [b__law_is_code, GoodSs, GoodS, GoodE, GoodEs, and_true, true_and, List.length_cons, List.length_nil, Nat.zero_add, Nat.reduceAdd]
      repeat' (first | assumption | apply And.intro))
  have F_Code_held_by := fun_mk (st := s_Code_held_by) l_Code_held_by cc_Code_held_by kk_Code_held_by
  have B_Code_held_by := F_Code_held_by.binds (ps := ["self", "group"]) fun _ _ _ _ _ _ us hl => match us, hl with | [_, _], _ => rfl
  have ok_Code_held_by := fn_run (g := g) (P := PySem.Challenge.pw_powersanddays_k00_codes_made_and_refused) (w := w) (base := base) (k := 0) (n := 40) F_Code_held_by sc_Code_held_by hwd bi (body := b_Code_held_by) ch_Code_held_by (by
      have q0 : NeedP g PySem.Challenge.pw_powersanddays_k00_codes_made_and_refused w K mg base 0 (.fld 0 2 "powers") := need_fld Cl_Code (by rw [ca_Code]; exact n_Code_powers) (by rw [cf_Code]; rfl) (by rw [cf_Code]; decide +kernel)
      simp only [b_Code_held_by, GoodSs, GoodS, GoodE, GoodEs, and_true, true_and, List.length_cons, List.length_nil, Nat.zero_add, Nat.reduceAdd]
      repeat' (first | assumption | apply And.intro))
  have F_Code_with_power := fun_mk (st := s_Code_with_power) l_Code_with_power cc_Code_with_power kk_Code_with_power
  have B_Code_with_power := F_Code_with_power.binds (ps := ["self", "power"]) fun _ _ _ _ _ _ us hl => match us, hl with | [_, _], _ => rfl
  have ok_Code_with_power := fn_run (g := g) (P := PySem.Challenge.pw_powersanddays_k00_codes_made_and_refused) (w := w) (base := base) (k := 6) (n := 40) F_Code_with_power sc_Code_with_power hwd bi (body := b_Code_with_power) ch_Code_with_power (by
      have q0 : NeedP g PySem.Challenge.pw_powersanddays_k00_codes_made_and_refused w K mg base 6 (.new "Code" 0 Code___init__) := need_new ok_Code___init__ (by omega) (by rw [ca_Code]; exact PySem.W.mg_of X G a_Code) (by rw [ca_Code]; exact ⟨mk_Code, a_Code___init__, i_Code___init__, kc_Code⟩) B_Code___init__ runInit_own
      have q1 : NeedP g PySem.Challenge.pw_powersanddays_k00_codes_made_and_refused w K mg base 6 (.fld 0 0 "book") := need_fld Cl_Code (by rw [ca_Code]; exact n_Code_book) (by rw [cf_Code]; rfl) (by rw [cf_Code]; decide +kernel)
      have q2 : NeedP g PySem.Challenge.pw_powersanddays_k00_codes_made_and_refused w K mg base 6 (.fld 0 1 "people") := need_fld Cl_Code (by rw [ca_Code]; exact n_Code_people) (by rw [cf_Code]; rfl) (by rw [cf_Code]; decide +kernel)
      have q3 : NeedP g PySem.Challenge.pw_powersanddays_k00_codes_made_and_refused w K mg base 6 (.fld 0 2 "powers") := need_fld Cl_Code (by rw [ca_Code]; exact n_Code_powers) (by rw [cf_Code]; rfl) (by rw [cf_Code]; decide +kernel)
      simp only [b_Code_with_power, GoodSs, GoodS, GoodE, GoodEs, and_true, true_and, List.length_cons, List.length_nil, Nat.zero_add, Nat.reduceAdd]
      repeat' (first | assumption | apply And.intro))
  have F__law_more := fun_mk (st := s__law_more) l__law_more cc__law_more kk__law_more
  have B__law_more := F__law_more.binds (ps := ["code", "n", "rules", "people", "powers", "more", "bad"]) fun _ _ _ _ _ _ us hl => match us, hl with | [_, _, _, _, _, _, _], _ => rfl
  have ok__law_more := fn_run (g := g) (P := PySem.Challenge.pw_powersanddays_k00_codes_made_and_refused) (w := w) (base := base) (k := 7) (n := 40) F__law_more sc__law_more hwd bi (body := b__law_more) ch__law_more (by
      have q0 : NeedP g PySem.Challenge.pw_powersanddays_k00_codes_made_and_refused w K mg base 7 (.catch_ "TooMany" 2 [(0, false), (1, false), (2, true), (3, false), (4, false)]) := need_catch (by rw [xa_TooMany]; exact PySem.W.mg_of X G a_TooMany) (tabAll (.cons (by rw [xa_DueError, xa_TooMany]; exact exm_of xs_TooMany xic_TooMany xt_TooMany sb_DueError_TooMany) (.cons (by rw [xa_BadCount, xa_TooMany]; exact exm_of xs_TooMany xic_TooMany xt_TooMany sb_BadCount_TooMany) (.cons (by rw [xa_TooMany]; exact exm_of xs_TooMany xic_TooMany xt_TooMany sb_TooMany_TooMany) (.cons (by rw [xa_BadRule, xa_TooMany]; exact exm_of xs_TooMany xic_TooMany xt_TooMany sb_BadRule_TooMany) (.cons (by rw [xa_BadPower, xa_TooMany]; exact exm_of xs_TooMany xic_TooMany xt_TooMany sb_BadPower_TooMany) .nil))))))
      have q1 : NeedP g PySem.Challenge.pw_powersanddays_k00_codes_made_and_refused w K mg base 7 (.meth 0 "with_power" Code_with_power) := need_meth ok_Code_with_power (by omega) Cl_Code (by rw [ca_Code]; exact ⟨a_Code_with_power, i_Code_with_power, kk_Code_with_power⟩) B_Code_with_power (by rw [cf_Code]; decide +kernel)
      have q2 : ∀ C j, List.lookup C ([(2, 0)] : List (Nat × Nat)) = some j → NeedP g PySem.Challenge.pw_powersanddays_k00_codes_made_and_refused w K mg base 7 (.xfld C j "limit") := (tabAll (.cons (need_xfld ⟨by rw [xa_TooMany]; exact ⟨xga_TooMany, xgg_TooMany, xs_TooMany, xh_TooMany⟩, by rw [xa_TooMany]; exact xn_TooMany_limit, by rw [xf_TooMany]; rfl, by rw [xf_TooMany]; decide +kernel⟩) .nil))
      have q3 : NeedP g PySem.Challenge.pw_powersanddays_k00_codes_made_and_refused w K mg base 7 (.call "_law_is_code" _law_is_code) := need_call ok__law_is_code (by omega) (PySem.W.mg_of X G a__law_is_code) kk__law_is_code B__law_is_code
      have q4 : NeedP g PySem.Challenge.pw_powersanddays_k00_codes_made_and_refused w K mg base 7 (.catch_ "BadPower" 4 [(0, false), (1, false), (2, false), (3, false), (4, true)]) := need_catch (by rw [xa_BadPower]; exact PySem.W.mg_of X G a_BadPower) (tabAll (.cons (by rw [xa_DueError, xa_BadPower]; exact exm_of xs_BadPower xic_BadPower xt_BadPower sb_DueError_BadPower) (.cons (by rw [xa_BadCount, xa_BadPower]; exact exm_of xs_BadPower xic_BadPower xt_BadPower sb_BadCount_BadPower) (.cons (by rw [xa_TooMany, xa_BadPower]; exact exm_of xs_BadPower xic_BadPower xt_BadPower sb_TooMany_BadPower) (.cons (by rw [xa_BadRule, xa_BadPower]; exact exm_of xs_BadPower xic_BadPower xt_BadPower sb_BadRule_BadPower) (.cons (by rw [xa_BadPower]; exact exm_of xs_BadPower xic_BadPower xt_BadPower sb_BadPower_BadPower) .nil))))))
      have q5 : ∀ C j, List.lookup C ([(1, 0), (3, 0), (4, 0)] : List (Nat × Nat)) = some j → NeedP g PySem.Challenge.pw_powersanddays_k00_codes_made_and_refused w K mg base 7 (.xfld C j "number") := (tabAll (.cons (need_xfld ⟨by rw [xa_BadCount]; exact ⟨xga_BadCount, xgg_BadCount, xs_BadCount, xh_BadCount⟩, by rw [xa_BadCount]; exact xn_BadCount_number, by rw [xf_BadCount]; rfl, by rw [xf_BadCount]; decide +kernel⟩) (.cons (need_xfld ⟨by rw [xa_BadRule]; exact ⟨xga_BadRule, xgg_BadRule, xs_BadRule, xh_BadRule⟩, by rw [xa_BadRule]; exact xn_BadRule_number, by rw [xf_BadRule]; rfl, by rw [xf_BadRule]; decide +kernel⟩) (.cons (need_xfld ⟨by rw [xa_BadPower]; exact ⟨xga_BadPower, xgg_BadPower, xs_BadPower, xh_BadPower⟩, by rw [xa_BadPower]; exact xn_BadPower_number, by rw [xf_BadPower]; rfl, by rw [xf_BadPower]; decide +kernel⟩) .nil))))
      simp only [b__law_more, GoodSs, GoodS, GoodE, GoodEs, and_true, true_and, List.length_cons, List.length_nil, Nat.zero_add, Nat.reduceAdd]
      repeat' (first | assumption | apply And.intro))
  have F_Code_without_power := fun_mk (st := s_Code_without_power) l_Code_without_power cc_Code_without_power kk_Code_without_power
  have B_Code_without_power := F_Code_without_power.binds (ps := ["self", "number"]) fun _ _ _ _ _ _ us hl => match us, hl with | [_, _], _ => rfl
  have ok_Code_without_power := fn_run (g := g) (P := PySem.Challenge.pw_powersanddays_k00_codes_made_and_refused) (w := w) (base := base) (k := 6) (n := 40) F_Code_without_power sc_Code_without_power hwd bi (body := b_Code_without_power) ch_Code_without_power (by
      have q0 : NeedP g PySem.Challenge.pw_powersanddays_k00_codes_made_and_refused w K mg base 6 (.new "Code" 0 Code___init__) := need_new ok_Code___init__ (by omega) (by rw [ca_Code]; exact PySem.W.mg_of X G a_Code) (by rw [ca_Code]; exact ⟨mk_Code, a_Code___init__, i_Code___init__, kc_Code⟩) B_Code___init__ runInit_own
      have q1 : NeedP g PySem.Challenge.pw_powersanddays_k00_codes_made_and_refused w K mg base 6 (.fld 0 0 "book") := need_fld Cl_Code (by rw [ca_Code]; exact n_Code_book) (by rw [cf_Code]; rfl) (by rw [cf_Code]; decide +kernel)
      have q2 : NeedP g PySem.Challenge.pw_powersanddays_k00_codes_made_and_refused w K mg base 6 (.fld 0 1 "people") := need_fld Cl_Code (by rw [ca_Code]; exact n_Code_people) (by rw [cf_Code]; rfl) (by rw [cf_Code]; decide +kernel)
      have q3 : NeedP g PySem.Challenge.pw_powersanddays_k00_codes_made_and_refused w K mg base 6 (.fld 0 2 "powers") := need_fld Cl_Code (by rw [ca_Code]; exact n_Code_powers) (by rw [cf_Code]; rfl) (by rw [cf_Code]; decide +kernel)
      simp only [b_Code_without_power, GoodSs, GoodS, GoodE, GoodEs, and_true, true_and, List.length_cons, List.length_nil, Nat.zero_add, Nat.reduceAdd]
      repeat' (first | assumption | apply And.intro))
  have F_law := fun_mk (st := s_law) l_law cc_law kk_law
  have B_law := F_law.binds (ps := ["script"]) fun _ _ _ _ _ _ us hl => match us, hl with | [_], _ => rfl
  have ok_law := fn_run (g := g) (P := PySem.Challenge.pw_powersanddays_k00_codes_made_and_refused) (w := w) (base := base) (k := 8) (n := 40) F_law sc_law hwd bi (body := b_law) ch_law (by
      have q0 : NeedP g PySem.Challenge.pw_powersanddays_k00_codes_made_and_refused w K mg base 8 (.call "_law_cell" _law_cell) := need_call ok__law_cell (by omega) (PySem.W.mg_of X G a__law_cell) kk__law_cell B__law_cell
      have q1 : NeedP g PySem.Challenge.pw_powersanddays_k00_codes_made_and_refused w K mg base 8 (.call "_law_rules" _law_rules) := need_call ok__law_rules (by omega) (PySem.W.mg_of X G a__law_rules) kk__law_rules B__law_rules
      have q2 : NeedP g PySem.Challenge.pw_powersanddays_k00_codes_made_and_refused w K mg base 8 (.call "_law_powers" _law_powers) := need_call ok__law_powers (by omega) (PySem.W.mg_of X G a__law_powers) kk__law_powers B__law_powers
      have q3 : NeedP g PySem.Challenge.pw_powersanddays_k00_codes_made_and_refused w K mg base 8 (.call "_law_spoiled" _law_spoiled) := need_call ok__law_spoiled (by omega) (PySem.W.mg_of X G a__law_spoiled) kk__law_spoiled B__law_spoiled
      have q4 : NeedP g PySem.Challenge.pw_powersanddays_k00_codes_made_and_refused w K mg base 8 (.new "Book" 1 Book___init__) := need_new ok_Book___init__ (by omega) (by rw [ca_Book]; exact PySem.W.mg_of X G a_Book) (by rw [ca_Book]; exact ⟨mk_Book, a_Book___init__, i_Book___init__, kc_Book⟩) B_Book___init__ runInit_own
      have q5 : NeedP g PySem.Challenge.pw_powersanddays_k00_codes_made_and_refused w K mg base 8 (.call "_law_expected" _law_expected) := need_call ok__law_expected (by omega) (PySem.W.mg_of X G a__law_expected) kk__law_expected B__law_expected
      have q6 : NeedP g PySem.Challenge.pw_powersanddays_k00_codes_made_and_refused w K mg base 8 (.call "_law_same" _law_same) := need_call ok__law_same (by omega) (PySem.W.mg_of X G a__law_same) kk__law_same B__law_same
      have q7 : NeedP g PySem.Challenge.pw_powersanddays_k00_codes_made_and_refused w K mg base 8 (.call "_law_tried" _law_tried) := need_call ok__law_tried (by omega) (PySem.W.mg_of X G a__law_tried) kk__law_tried B__law_tried
      have q8 : NeedP g PySem.Challenge.pw_powersanddays_k00_codes_made_and_refused w K mg base 8 (.new "Code" 0 Code___init__) := need_new ok_Code___init__ (by omega) (by rw [ca_Code]; exact PySem.W.mg_of X G a_Code) (by rw [ca_Code]; exact ⟨mk_Code, a_Code___init__, i_Code___init__, kc_Code⟩) B_Code___init__ runInit_own
      have q9 : NeedP g PySem.Challenge.pw_powersanddays_k00_codes_made_and_refused w K mg base 8 (.call "_law_is_code" _law_is_code) := need_call ok__law_is_code (by omega) (PySem.W.mg_of X G a__law_is_code) kk__law_is_code B__law_is_code
      have q10 : NeedP g PySem.Challenge.pw_powersanddays_k00_codes_made_and_refused w K mg base 8 (.meth 0 "held_by" Code_held_by) := need_meth ok_Code_held_by (by omega) Cl_Code (by rw [ca_Code]; exact ⟨a_Code_held_by, i_Code_held_by, kk_Code_held_by⟩) B_Code_held_by (by rw [cf_Code]; decide +kernel)
      have q11 : NeedP g PySem.Challenge.pw_powersanddays_k00_codes_made_and_refused w K mg base 8 (.call "_law_more" _law_more) := need_call ok__law_more (by omega) (PySem.W.mg_of X G a__law_more) kk__law_more B__law_more
      have q12 : NeedP g PySem.Challenge.pw_powersanddays_k00_codes_made_and_refused w K mg base 8 (.meth 0 "without_power" Code_without_power) := need_meth ok_Code_without_power (by omega) Cl_Code (by rw [ca_Code]; exact ⟨a_Code_without_power, i_Code_without_power, kk_Code_without_power⟩) B_Code_without_power (by rw [cf_Code]; decide +kernel)
      simp only [b_law, lp_law_1, GoodSs, GoodS, GoodE, GoodEs, and_true, true_and, List.length_cons, List.length_nil, Nat.zero_add, Nat.reduceAdd]
      repeat' (first | assumption | apply And.intro))
  exact ok_law
end Law
namespace Law
open Fx
/-- bit w of p -/
def bit (p w : Int) : Bool := decide (PySem.Builtin.bitAnd (p / 2 ^ w.toNat) 1 = 1)
theorem holds_eq {p w : Int} (hw : 0 ≤ w) : _law_holds [(.frz, .int p), (.frz, .int w)] = .ok (.frz, .bl (bit p w)) := by
  unfold _law_holds
  rw [runDef_eq (by rfl)]
  simp [b__law_holds, binI_shr hw, bit]
def cell (ns : List Int) (k : Nat) : Int := match ns[k]? with
  | some z => if z < 0 then -z else z
  | none => 0
theorem cell_nn {ns : List Int} {k : Nat} : 0 ≤ cell ns k := by
  unfold cell
  split
  · split <;> omega
  · omega
theorem cell_eq {ns : List Int} {k : Nat} (h : ns.length ≤ 63) : _law_cell [(.frz, .scr ns), (.frz, .int k)] = .ok (.frz, .int (cell ns k)) := by
  unfold _law_cell
  rw [runDef_eq (by rfl)]
  have hz := szn (n := ns.length) (by omega)
  by_cases hk : k < ns.length
  · have e : ns[k]? = some ns[k] := List.getElem?_eq_getElem hk
    simp [b__law_cell, hz, hk, atIx_nat, e, cell]
  · have e : ns[k]? = none := List.getElem?_eq_none (by omega)
    simp [b__law_cell, hz, hk, cell, e]
def intL (xs : List Int) : List D := xs.map D.int
theorem intL_app (xs : List Int) (x : Int) : intL xs ++ [D.int x] = intL (xs ++ [x]) := by simp [intL]
theorem intL_len (xs : List Int) : (intL xs).length = xs.length := by simp [intL]
theorem numbers_eq {ns : List Int} {a c : Nat} {r : Int} (h : ns.length ≤ 63) (ha : a ≤ 1000) (hc : c ≤ 1000) (hr : 0 < r) (hr2 : r < 18446744073709551616) :
    ∃ xs : List Int, xs.length = c ∧ (∀ x ∈ xs, 0 ≤ x ∧ x < r) ∧ _law_numbers [(.frz, .scr ns), (.frz, .int a), (.frz, .int c), (.frz, .int r)] = .ok (.own, .lst (intL xs)) := by
  unfold _law_numbers
  rw [runDef_eq (by rfl)]
  have hc62 : lim62 (c : Int) = true := lim62_t (by omega) (by omega)
  have h0 : (0 ≤ sizeL) = True := szn (by simp)
  have hcn := cell_nn (ns := ns) (k := a)
  have main : ∀ L : Int, 0 ≤ L → ∃ xs : List Int, xs.length = c ∧ (∀ x ∈ xs, 0 ≤ x ∧ x < r) ∧ ∃ e : Env, e[5]? = some (some (.own, .lst (intL xs))) ∧ forLoop (fun d env => env.set 7 (some (.frz, d)) |> R.ok) (fun env => execs lp__law_numbers_1 env) [7, 8] (rngL 0 c)
      [some (.frz, .scr ns), some (.frz, .int a), some (.frz, .int c), some (.frz, .int r), some (.frz, .int (cell ns a)), some (.own, .lst []), some (.frz, .int L), none, none] = .nx e := by
    intro L hL
    refine for_ind (P := fun i e => ∃ (xs : List Int) (L : Int), xs.length = i ∧ (∀ x ∈ xs, 0 ≤ x ∧ x < r) ∧ 0 ≤ L ∧ e = [some (.frz, .scr ns), some (.frz, .int a), some (.frz, .int c), some (.frz, .int r), some (.frz, .int (cell ns a)), some (.own, .lst (intL xs)), some (.frz, .int L), none, none])
      (Q := fun o => ∃ xs : List Int, xs.length = c ∧ (∀ x ∈ xs, 0 ≤ x ∧ x < r) ∧ ∃ e : Env, e[5]? = some (some (.own, .lst (intL xs))) ∧ o = .nx e) (fun i d e hi hP => ?_) (fun e hP => ?_) ⟨[], L, rfl, by simp, hL, rfl⟩
    · obtain ⟨xs, L, hx, hb, hL, rfl⟩ := hP
      obtain ⟨hi, rfl⟩ := rngL_get hi
      have hz := szl (n := (intL xs).length) (by rw [intL_len]; omega)
      refine ⟨_, rfl, .inl ?_⟩
      by_cases hp : 0 < L
      · refine ⟨_, .inl (by simp [lp__law_numbers_1, hp, hz, ownL_eq, binI_mod hr, binI_fdiv hr hr2]; rfl), xs ++ [L % r], L / r, by simp [hx], ?_, Int.ediv_nonneg hL (by omega), by simp [intL_app]⟩
        intro x hxm
        rcases List.mem_append.mp hxm with hxm | hxm
        · exact hb x hxm
        · simp at hxm
          subst hxm
          exact ⟨Int.emod_nonneg _ (by omega), Int.emod_lt_of_pos _ hr⟩
      · have m1 : binI .mod (cell ns a) 999983 = .ok (cell ns a % 999983) := binI_mod (by decide)
        have l1 := Int.emod_nonneg (cell ns a) (b := 999983) (by decide)
        have l2 := Int.emod_lt_of_pos (cell ns a) (b := 999983) (by decide)
        have m2 : binI .mul 37 (a : Int) = .ok (37 * a) := binI_mul (.inl (lim64_t (by decide) (by decide)))
        have m3 : binI .mul 7919 ((i : Int)) = .ok (7919 * i) := binI_mul (.inl (lim64_t (by decide) (by decide)))
        have m4 : binI .mul 611 (a : Int) = .ok (611 * a) := binI_mul (.inl (lim64_t (by decide) (by decide)))
        generalize hX : (cell ns a % 999983 + 37 * a + 1) = X at *
        generalize hY : (7919 * (i : Int) + 611 * a + 104729) = Y at *
        have m5 : binI .mul X Y = .ok (X * Y) := binI_mul (.inl (lim64_t (by omega) (by omega)))
        have m6 : binI .mod (X * Y) 1000003 = .ok (X * Y % 1000003) := binI_mod (by decide)
        have l3 := Int.emod_nonneg (X * Y) (b := 1000003) (by decide)
        have l4 := Int.emod_lt_of_pos (X * Y) (b := 1000003) (by decide)
        generalize hZ : X * Y % 1000003 = Z at *
        have m7 : binI .mul Z (Z + 31) = .ok (Z * (Z + 31)) := binI_mul (.inl (lim64_t (by omega) (by omega)))
        have m8 : binI .mod (Z * (Z + 31)) 1000033 = .ok (Z * (Z + 31) % 1000033) := binI_mod (by decide)
        generalize hV : Z * (Z + 31) % 1000033 = U at *
        refine ⟨_, .inl (by simp [lp__law_numbers_1, hp, hz, ownL_eq, binI_mod hr, m1, m2, m3, m4, hX, hY, m5, m6, hZ, m7, m8, hV]; rfl), xs ++ [U % r], L, by simp [hx], ?_, hL, by simp [intL_app]⟩
        intro x hxm
        rcases List.mem_append.mp hxm with hxm | hxm
        · exact hb x hxm
        · simp at hxm
          subst hxm
          exact ⟨Int.emod_nonneg _ (by omega), Int.emod_lt_of_pos _ hr⟩
    · obtain ⟨xs, L, hx, hb, hL, rfl⟩ := hP
      exact ⟨xs, by simpa using hx, hb, _, rfl, rfl⟩
  obtain ⟨xs, hx, hb, e, he, hl⟩ := main (if cell ns a < big18 then 0 else cell ns a) (by split <;> omega)
  refine ⟨xs, hx, hb, ?_⟩
  have e0 : eval (.cmp .lt (.var 6) (.bin .pow (.cint 10) (.cint 18))) [some (.frz, .scr ns), some (.frz, .int a), some (.frz, .int c), some (.frz, .int r), some (.frz, .int (cell ns a)), some (.own, .lst []), some (.frz, .int (cell ns a)), none, none] = .ok (.frz, .bl (decide (cell ns a < big18))) := by
    rw [r_cmp, e1018, r_var]
    simp
  by_cases hp : cell ns a < big18
  · rw [if_pos hp] at hl
    rw [b__law_numbers]
    simp only [r_x, r_iff]
    simp [-r_cmp, cell_eq h, h0]
    simp only [e0]
    simp [hp, hc62]
    rw [hl]
    simp [he]
  · rw [if_neg hp] at hl
    rw [b__law_numbers]
    simp only [r_x, r_iff]
    simp [-r_cmp, cell_eq h, h0]
    simp only [e0]
    simp [hp, hc62]
    rw [hl]
    simp [he]
end Law

namespace Law
open Fx
mutual
/-- plain data, not too long -/
def sm : D → Bool
  | .non => true
  | .int _ => true
  | .str _ => true
  | .tup xs => decide (xs.length ≤ 4096) && smL xs
  | .lst xs => decide (xs.length ≤ 4096) && smL xs
  | _ => false
def smL : List D → Bool
  | [] => true
  | x :: xs => sm x && smL xs
end
theorem smL_get : ∀ {xs : List D} {i : Nat} {d : D}, smL xs = true → xs[i]? = some d → sm d = true
  | [], i, d, _, h => by cases h
  | x :: xs, i, d, hs, h => by
    simp only [smL, Bool.and_eq_true] at hs
    cases i with
    | zero => cases h; exact hs.1
    | succ i => exact smL_get hs.2 h
theorem depL_get : ∀ {xs : List D} {i : Nat} {d : D}, xs[i]? = some d → d.dep ≤ D.depL xs
  | [], i, d, h => by cases h
  | x :: xs, i, d, h => by
    simp only [D.depL]
    cases i with
    | zero => cases h; omega
    | succ i =>
      have := depL_get (xs := xs) (i := i) (d := d) h
      omega
theorem same_items {n : Nat} {xs : List D} (ih : ∀ d, sm d = true → d.dep < n → r__law_same n [(.frz, d), (.frz, d)] = .ok (.frz, .bl true)) (hs : smL xs = true) (hd : D.depL xs < n) (x y : Val) (hx : x.2 = .tup xs ∨ x.2 = .lst xs) (hm : x.1 = .frz) :
    lcLoop (fun d => bindT (.nm 2) d (wipeE [some x, some x, none] [2])) (fun e => noEx (evalIfs [] e)) (fun e => noEx ((eval (.call "_law_same" (r__law_same n) [(.ix (.var 0) (.var 2)), (.ix (.var 1) (.var 2))]) e).bind fun v => esc v)) (rngL 0 xs.length) = .ok (((rngL 0 xs.length).filter fun _ => true).map fun _ => .bl true) := by
  refine lc_map (fun _ => true) (fun _ => .bl true) _ fun d hdm => ?_
  obtain ⟨i, hi, rfl⟩ := rngL_mem hdm
  have e : xs[i]? = some xs[i] := List.getElem?_eq_getElem hi
  have q := ih xs[i] (smL_get hs e) (Nat.lt_of_le_of_lt (depL_get e) hd)
  obtain ⟨m, d⟩ := x
  cases hm
  rcases hx with hx | hx
  · cases hx
    refine ⟨_, r_bT, by rw [r_if0]; rfl, fun _ => ?_⟩
    simp [atIx_nat, e, q]
  · cases hx
    refine ⟨_, r_bT, by rw [r_if0]; rfl, fun _ => ?_⟩
    simp [atIx_nat, e, q]
theorem all_true {α : Type} (l : List α) : ((l.filter fun _ => true).map fun _ => D.bl true) = (l.map fun _ => D.bl true) := by rw [List.filter_eq_self.mpr fun _ _ => rfl]
theorem same_refl : ∀ (n : Nat) (d : D), sm d = true → d.dep < n → r__law_same n [(.frz, d), (.frz, d)] = .ok (.frz, .bl true)
  | 0, d, _, h => absurd h (Nat.not_lt_zero _)
  | n + 1, d, hs, hd => by
    show runDef 2 3 (b__law_same (r__law_same n)) _ = _
    rw [runDef_eq (by rfl)]
    cases d with
    | non => simp [b__law_same]
    | int i => simp [b__law_same, ofTy]
    | str s => simp [b__law_same, ofTy]
    | tup xs =>
      simp only [sm, Bool.and_eq_true, decide_eq_true_eq] at hs
      simp only [D.dep] at hd
      have hz := szn hs.1
      have l62 : lim62 (xs.length : Int) = true := lim62_t (by omega) (by omega)
      have q := same_items (fun d h1 h2 => same_refl n d h1 h2) hs.2 (by omega) (.frz, .tup xs) (.frz, .tup xs) (.inl rfl) rfl
      have h2 := szn (n := xs.length) hs.1
      simp only [all_true] at q
      simp [b__law_same, ofTy, hz, l62] at q ⊢
      rw [q]
      simp [h2, boolsOf_map]
    | lst xs =>
      simp only [sm, Bool.and_eq_true, decide_eq_true_eq] at hs
      simp only [D.dep] at hd
      have hz := szn hs.1
      have l62 : lim62 (xs.length : Int) = true := lim62_t (by omega) (by omega)
      have q := same_items (fun d h1 h2 => same_refl n d h1 h2) hs.2 (by omega) (.frz, .lst xs) (.frz, .lst xs) (.inr rfl) rfl
      have h2 := szn (n := xs.length) hs.1
      simp only [all_true] at q
      simp [b__law_same, ofTy, hz, l62] at q ⊢
      rw [q]
      simp [h2, boolsOf_map]
    | _ => simp [sm] at hs
end Law

namespace Law
open Fx
/-- how many propositions n letters have -/
def tp (n : Nat) : Int := 2 ^ (2 ^ n)
theorem tp_pos (n : Nat) : 0 < tp n := Int.pow_pos (by decide)
theorem two_nat (n : Nat) : ((2 : Int) ^ n) = ((2 ^ n : Nat) : Int) := by
  induction n with
  | zero => rfl
  | succ n ih => rw [Int.pow_succ, ih, Nat.pow_succ]; push_cast; rfl
theorem shl_n {n : Nat} (h : n ≤ 1000) : binI .shl 1 (n : Int) = .ok (2 ^ n) := by
  rw [binI_shl1 (by omega) (by omega), Int.toNat_natCast]
theorem shl_tp {n : Nat} (h : n ≤ 5) : binI .shl 1 (2 ^ n) = .ok (tp n) := by
  have h2 : 2 ^ n ≤ 2 ^ 5 := Nat.pow_le_pow_right (by decide) h
  rw [two_nat, binI_shl1 (Int.natCast_nonneg _) (by omega), Int.toNat_natCast]
  rfl
theorem everything_eq {n : Nat} (h : n ≤ 5) : everything [(.frz, .int n)] = .ok (.frz, .int (tp n - 1)) := by
  unfold everything
  rw [runDef_eq (by rfl)]
  simp [b_everything, shl_n (n := n) (by omega), shl_tp h]
/-- a proposition of n letters -/
def okP (n : Nat) (p : Int) : Bool := decide (0 ≤ p) && decide (p < tp n)
theorem is_prop_eq {n : Nat} {p : Int} (h : n ≤ 5) : is_prop [(.frz, .int n), (.frz, .int p)] = .ok (.frz, .bl (okP n p)) := by
  unfold is_prop
  rw [runDef_eq (by rfl)]
  by_cases h0 : 0 ≤ p
  · have e : (p ≤ tp n - 1) ↔ p < tp n := by omega
    simp [b_is_prop, everything_eq h, h0, okP, e]
  · simp [b_is_prop, everything_eq h, h0, okP]
def till : PySem.Str := "till"
def soon : PySem.Str := "soon"
def again : PySem.Str := "again"
def pD (p : Int × Int) : D := .tup [.int p.1, .int p.2]
/-- a part of a timed rule -/
def okPart (n : Nat) (kind : PySem.Str) (p : Int × Int) : Bool := okP n p.1 && (if kind == till then okP n p.2 else decide (0 ≤ p.2) && decide (p.2 ≤ 6))
theorem is_part_eq {n : Nat} {kind : PySem.Str} {p : Int × Int} (h : n ≤ 5) : is_part [(.frz, .int n), (.frz, .str kind), (.frz, pD p)] = .ok (.frz, .bl (okPart n kind p)) := by
  unfold is_part
  rw [runDef_eq (by rfl)]
  cases h1 : okP n p.1 with
  | false => simp [b_is_part, pD, is_prop_eq h, okPart, h1]
  | true =>
    by_cases h2 : kind == "till"
    · simp [b_is_part, pD, is_prop_eq h, okPart, h1, h2, till]
    · by_cases h3 : 0 ≤ p.2
      · simp [b_is_part, pD, is_prop_eq h, okPart, h1, h2, till, h3]
      · simp [b_is_part, pD, is_prop_eq h, okPart, h1, h2, till, h3]
theorem inOp_tup {x : D} {ys : List D} (h1 : x.cmpOk = true) (h2 : (D.tup ys).cmpOk = true) : inOp x (.tup ys) = .ok (ys.any fun z => D.eqv z x) := by
  show (if (x.cmpOk && (D.tup ys).cmpOk) = true then R.ok (ys.any fun z => D.eqv z x) else .no) = _
  rw [h1, h2]
  rfl
/-- one of the three kinds -/
def okK (kind : PySem.Str) : Bool := (soon == kind) || ((again == kind) || (till == kind))
theorem nin_kinds {kind : PySem.Str} (hk : (D.str kind).cmpOk = true) : cmpop .nin (.str kind) (.tup [.str "soon", .str "again", .str "till"]) = .ok (!okK kind) := by
  have h2 : (D.tup [.str "soon", .str "again", .str "till"]).cmpOk = true := by decide +kernel
  have e : cmpop .nin (.str kind) (.tup [.str "soon", .str "again", .str "till"]) = (inOp (.str kind) (.tup [.str "soon", .str "again", .str "till"])).bind (fun b => R.ok (!b)) := rfl
  rw [e, inOp_tup hk h2]
  simp [D.eqv, okK, soon, again, till]
end Law

namespace Law
open Fx
def psD (ps : List (Int × Int)) : List D := ps.map pD
theorem psD_len (ps : List (Int × Int)) : (psD ps).length = ps.length := by simp [psD]
theorem enum_get {ps : List (Int × Int)} {i : Nat} {d : D} (h : (enumL (psD ps))[i]? = some d) : ∃ p, ps[i]? = some p ∧ d = .tup [.int (i : Int), pD p] := by
  unfold enumL psD at h
  rw [List.getElem?_mapIdx, List.getElem?_map] at h
  cases e : ps[i]? with
  | none => rw [e] at h; cases h
  | some p => rw [e] at h; cases h; exact ⟨p, rfl, rfl⟩
theorem enum_len (ps : List (Int × Int)) : (enumL (psD ps)).length = ps.length := by simp [enumL, psD]
/-- the error that is due -/
def bad (n : Nat) (kind : PySem.Str) (body : Int) (ps : List (Int × Int)) : Option (Nat × List D) :=
  if ¬ (1 ≤ n ∧ n ≤ 4) then some (1, [.int n]) else if okK kind = false then some (6, [.str kind])
  else if ¬ (1 ≤ ps.length ∧ ps.length ≤ if kind == soon then 3 else 1) then some (1, [.int ps.length])
  else if okP n body = false then some (7, [.int 0]) else match ps.findIdx? (fun p => !okPart n kind p) with
    | some i => some (7, [.int (i + 1)])
    | none => none
theorem init_loop {n : Nat} {kind : PySem.Str} {body most : Int} {ps : List (Int × Int)} {m : Mode} (hn : n ≤ 5) (hm : m = .frz ∨ m = .bor) :
    let env0 : Env := [some (.own, .ins 2 []), some (.frz, .int n), some (.frz, .str kind), some (.frz, .int body), some (m, .lst (psD ps)), some (.frz, .int most), none, none, none, none]
    (ps.findIdx? (fun p => !okPart n kind p) = none ∧ forLoop (fun d env => bindT (.tp [(.nm 6), (.nm 7)]) d env) (fun env => execs lp_Timed___init___1 env) [6, 7] (enumL (psD ps)) env0 = .nx env0) ∨
    ∃ i e, ps.findIdx? (fun p => !okPart n kind p) = some i ∧ forLoop (fun d env => bindT (.tp [(.nm 6), (.nm 7)]) d env) (fun env => execs lp_Timed___init___1 env) [6, 7] (enumL (psD ps)) env0 = .ex 7 [.int ((i : Int) + 1)] e := by
  intro env0
  refine for_ind (P := fun i e => e = env0 ∧ ∀ j p, j < i → ps[j]? = some p → okPart n kind p = true)
    (Q := fun o => (ps.findIdx? (fun p => !okPart n kind p) = none ∧ o = .nx env0) ∨ ∃ i e, ps.findIdx? (fun p => !okPart n kind p) = some i ∧ o = .ex 7 [.int ((i : Int) + 1)] e) (fun i d e hi hP => ?_) (fun e hP => ?_) ⟨rfl, fun j p h => absurd h (Nat.not_lt_zero _)⟩
  · obtain ⟨rfl, hP⟩ := hP
    obtain ⟨p, hp, rfl⟩ := enum_get hi
    have ip : is_part [(.frz, .int n), (.frz, .str kind), (.frz, .tup [.int p.1, .int p.2])] = .ok (.frz, .bl (okPart n kind p)) := is_part_eq hn
    cases hk : okPart n kind p with
    | true =>
      rw [hk] at ip
      refine ⟨_, by simp [pD, env0]; rfl, .inl ⟨_, .inl (by simp [lp_Timed___init___1, ip]; rfl), by simp [env0], fun j p' hj hp' => ?_⟩⟩
      rcases Nat.lt_succ_iff_lt_or_eq.mp hj with h | h
      · exact hP j p' h hp'
      · subst h
        rw [hp] at hp'; cases hp'
        exact hk
    | false =>
      rw [hk] at ip
      refine ⟨_, by simp [pD, env0]; rfl, .inr (.inr (.inr ⟨7, [.int ((i : Int) + 1)], _, by simp [lp_Timed___init___1, ip]; rfl, .inr ⟨i, _, ?_, rfl⟩⟩))⟩
      rw [List.findIdx?_eq_some_iff_getElem]
      obtain ⟨hl, e⟩ := List.getElem?_eq_some_iff.mp hp
      refine ⟨hl, by rw [e, hk]; rfl, fun j hj => ?_⟩
      rw [hP j _ hj (List.getElem?_eq_getElem _)]
      simp
  · obtain ⟨rfl, hP⟩ := hP
    left
    refine ⟨?_, rfl⟩
    rw [List.findIdx?_eq_none_iff]
    intro p hp
    obtain ⟨j, hj, rfl⟩ := List.getElem_of_mem hp
    rw [hP j _ (by rw [enum_len]; exact hj) (List.getElem?_eq_getElem hj)]
    rfl
end Law

namespace Law
open Fx
theorem comp_parts {ps : List (Int × Int)} {x0 x1 x2 x3 x4 x5 x6 x7 : Option Val} : lcLoop (fun d => bindT (.tp [(.nm 8), (.nm 9)]) d (wipeE [x0, x1, x2, x3, x4, x5, x6, x7, none, none] [8, 9])) (fun e => noEx (evalIfs [] e)) (fun e => noEx ((eval (.tup [(.var 8), (.var 9)]) e).bind fun v => esc v)) (psD ps) = .ok (psD ps) := by
  have q := lc_map (bindf := fun d => bindT (.tp [(.nm 8), (.nm 9)]) d (wipeE [x0, x1, x2, x3, x4, x5, x6, x7, none, none] [8, 9])) (test := fun e => noEx (evalIfs [] e)) (elt := fun e => noEx ((eval (.tup [(.var 8), (.var 9)]) e).bind fun v => esc v)) (fun _ => true) id (psD ps) fun d hd => by
    obtain ⟨p, hp, rfl⟩ := List.mem_map.mp hd
    have h2 : ((0 : Nat) + 1 + 1 ≤ sizeL) = True := szn (by decide)
    refine ⟨_, by simp [pD]; rfl, by rw [r_if0]; rfl, fun _ => ?_⟩
    simp [pD, szn (n := 2) (by decide)]
  rw [q, List.filter_eq_self.mpr fun _ _ => rfl]
  simp
theorem init_eq {n : Nat} {kind : PySem.Str} {body : Int} {ps : List (Int × Int)} {m : Mode} (hn : n ≤ 5) (hk : (D.str kind).cmpOk = true) (hl : ps.length ≤ 4096) (hm : m = .frz ∨ m = .bor) :
    Timed___init__ [(.frz, .int n), (.frz, .str kind), (.frz, .int body), (m, .lst (psD ps))] = match bad n kind body ps with
      | some (C, fs) => .ex C fs
      | none => .ok (.own, .ins 2 [.int n, .str kind, .int body, .tup (psD ps)]) := by
  unfold Timed___init__
  rw [runInit_eq (by rfl)]
  have hz := szn (n := (psD ps).length) (by rw [psD_len]; exact hl)
  have hz2 := szn (n := ps.length) hl
  have nk := nin_kinds hk
  have ip := is_prop_eq (n := n) (p := body) hn
  have hta : toArg (m, .lst (psD ps)) = (m, .lst (psD ps)) := by rcases hm with rfl | rfl <;> rfl
  have hrd : rdO (some (some (m, .lst (psD ps)))) = .ok (m, .lst (psD ps)) := by rcases hm with rfl | rfl <;> rfl
  have hpas : pas (m, .lst (psD ps)) = (m, .lst (psD ps)) := by rcases hm with rfl | rfl <;> rfl
  have hno : noLnt (m, .lst (psD ps)) = .ok (.lst (psD ps)) := by rcases hm with rfl | rfl <;> rfl
  unfold bad
  by_cases c1 : 1 ≤ n
  rotate_left
  · simp [b_Timed___init__, hta, c1, show ¬ ((1 : Int) ≤ n) by omega]
  by_cases c2 : n ≤ 4
  rotate_left
  · simp [b_Timed___init__, hta, c1, c2, show ((1 : Int) ≤ n) by omega, show ¬ ((n : Int) ≤ 4) by omega]
  have c1' : (1 : Int) ≤ n := by omega
  have c2' : (n : Int) ≤ 4 := by omega
  cases c3 : okK kind with
  | false => rw [c3] at nk; simp [b_Timed___init__, hta, c1, c2, c1', c2', nk]
  | true =>
    rw [c3] at nk
    by_cases hs : kind = "soon"
    · skip
      have hs' := eq_true hs
      have hb : (if kind == soon then 3 else 1) = 3 := by simp [soon, hs]
      rw [hb]
      by_cases d1 : 1 ≤ ps.length
      rotate_left
      · simp [b_Timed___init__, hta, c1', c2', nk, hs', hrd, hpas, hz, hz2, psD_len, c1, c2, d1, show ¬ ((1 : Int) ≤ ps.length) by omega]
      by_cases d2 : ps.length ≤ 3
      rotate_left
      · simp [b_Timed___init__, hta, c1', c2', nk, hs', hrd, hpas, hz, hz2, psD_len, c1, c2, d1, d2, show ((1 : Int) ≤ ps.length) by omega, show ¬ ((ps.length : Int) ≤ 3) by omega]
      have d1' : (1 : Int) ≤ ps.length := by omega
      have d2' : (ps.length : Int) ≤ 3 := by omega
      cases e1 : okP n body with
      | false => rw [e1] at ip; simp [b_Timed___init__, hta, c1', c2', nk, hs', hrd, hpas, hz, hz2, psD_len, c1, c2, d1, d2, d1', d2', ip]
      | true =>
        rw [e1] at ip
        rcases init_loop (n := n) (kind := kind) (body := body) (most := 3) (ps := ps) (m := m) hn hm with ⟨h1, h2⟩ | ⟨i, e, h1, h2⟩
        · rw [h1]
          have q := comp_parts (ps := ps) (x0 := some (.own, .ins 2 [.int n, .str kind, .int body])) (x1 := some (.frz, .int n)) (x2 := some (.frz, .str kind)) (x3 := some (.frz, .int body)) (x4 := some (m, .lst (psD ps))) (x5 := some (.frz, .int 3)) (x6 := none) (x7 := none)
          simp at q
          simp [b_Timed___init__, hta, c1', c2', nk, hs', hrd, hpas, hno, hz, hz2, psD_len, c1, c2, d1, d2, d1', d2', ip, h2, ownS_eq, putField, q]
        · rw [h1]
          simp [b_Timed___init__, hta, c1', c2', nk, hs', hrd, hpas, hno, hz, hz2, psD_len, c1, c2, d1, d2, d1', d2', ip, h2]

    · skip
      have hs' := eq_false hs
      have hb : (if kind == soon then 3 else 1) = 1 := by simp [soon, hs]
      rw [hb]
      by_cases d1 : 1 ≤ ps.length
      rotate_left
      · simp [b_Timed___init__, hta, c1', c2', nk, hs', hrd, hpas, hz, hz2, psD_len, c1, c2, d1, show ¬ ((1 : Int) ≤ ps.length) by omega]
      by_cases d2 : ps.length ≤ 1
      rotate_left
      · simp [b_Timed___init__, hta, c1', c2', nk, hs', hrd, hpas, hz, hz2, psD_len, c1, c2, d1, d2, show ((1 : Int) ≤ ps.length) by omega, show ¬ ((ps.length : Int) ≤ 1) by omega]
      have d1' : (1 : Int) ≤ ps.length := by omega
      have d2' : (ps.length : Int) ≤ 1 := by omega
      cases e1 : okP n body with
      | false => rw [e1] at ip; simp [b_Timed___init__, hta, c1', c2', nk, hs', hrd, hpas, hz, hz2, psD_len, c1, c2, d1, d2, d1', d2', ip]
      | true =>
        rw [e1] at ip
        rcases init_loop (n := n) (kind := kind) (body := body) (most := 1) (ps := ps) (m := m) hn hm with ⟨h1, h2⟩ | ⟨i, e, h1, h2⟩
        · rw [h1]
          have q := comp_parts (ps := ps) (x0 := some (.own, .ins 2 [.int n, .str kind, .int body])) (x1 := some (.frz, .int n)) (x2 := some (.frz, .str kind)) (x3 := some (.frz, .int body)) (x4 := some (m, .lst (psD ps))) (x5 := some (.frz, .int 1)) (x6 := none) (x7 := none)
          simp at q
          simp [b_Timed___init__, hta, c1', c2', nk, hs', hrd, hpas, hno, hz, hz2, psD_len, c1, c2, d1, d2, d1', d2', ip, h2, ownS_eq, putField, q]
        · rw [h1]
          simp [b_Timed___init__, hta, c1', c2', nk, hs', hrd, hpas, hno, hz, hz2, psD_len, c1, c2, d1, d2, d1', d2', ip, h2]

end Law

namespace Law
open Fx
theorem or_nat {a b : Int} (ha : 0 ≤ a) (hb : 0 ≤ b) : PySem.Builtin.bitOr a b = ((a.toNat ||| b.toNat : Nat) : Int) := by
  have n1 : PySem.Builtin.bitNot a = -a - 1 := rfl
  have n2 : PySem.Builtin.bitNot b = -b - 1 := rfl
  have e : PySem.Builtin.bitOr a b = PySem.Builtin.bitNot (PySem.Builtin.bitAnd (PySem.Builtin.bitNot a) (PySem.Builtin.bitNot b)) := rfl
  have f : PySem.Builtin.bitAnd (-a - 1) (-b - 1) = PySem.Builtin.bitNot (((PySem.Builtin.bitNot (-a - 1)).toNat ||| (PySem.Builtin.bitNot (-b - 1)).toNat : Nat) : Int) := by
    unfold PySem.Builtin.bitAnd
    rw [decide_eq_false (show ¬ (0 ≤ -a - 1) by omega), decide_eq_false (show ¬ (0 ≤ -b - 1) by omega)]
  have g1 : PySem.Builtin.bitNot (-a - 1) = a := by show -(-a - 1) - 1 = a; omega
  have g2 : PySem.Builtin.bitNot (-b - 1) = b := by show -(-b - 1) - 1 = b; omega
  rw [e, n1, n2, f, g1, g2]
  show -(-_ - 1) - 1 = _
  omega
theorem or_lt {a b : Int} {n : Nat} (ha : 0 ≤ a ∧ a < tp n) (hb : 0 ≤ b ∧ b < tp n) : 0 ≤ PySem.Builtin.bitOr a b ∧ PySem.Builtin.bitOr a b < tp n := by
  rw [or_nat ha.1 hb.1]
  refine ⟨Int.natCast_nonneg _, ?_⟩
  have e : tp n = ((2 ^ (2 ^ n) : Nat) : Int) := two_nat _
  have h1 : a.toNat < 2 ^ (2 ^ n) := by have := ha.2; rw [e] at this; omega
  have h2 : b.toNat < 2 ^ (2 ^ n) := by have := hb.2; rw [e] at this; omega
  have := Nat.or_lt_two_pow h1 h2
  rw [e]
  omega
theorem sum_pow (t : Nat → Bool) : ∀ N : Nat, 0 ≤ (((List.range N).filter t).map fun w => (2 : Int) ^ w).sum ∧ (((List.range N).filter t).map fun w => (2 : Int) ^ w).sum < 2 ^ N
  | 0 => by simp
  | N + 1 => by
    have ih := sum_pow t N
    have hp : (0 : Int) < 2 ^ N := Int.pow_pos (by decide)
    rw [List.range_succ, List.filter_append, List.map_append, List.sum_append]
    cases h : t N with
    | true => simp [h]; rw [Int.pow_succ]; omega
    | false => simp [h]; rw [Int.pow_succ]; omega
theorem prop_ok {n : Nat} {number a b : Int} (h1 : 1 ≤ n) (h4 : n ≤ 4) (hn : 0 ≤ number) (ha : 0 ≤ a ∧ a < tp n) (hb : 0 ≤ b ∧ b < tp n) :
    ∃ r, (0 ≤ r ∧ r < tp n) ∧ _law_prop [(.frz, .int n), (.frz, .int number), (.frz, .int a), (.frz, .int b)] = .ok (.frz, .int r) := by
  have s1 := shl_n (n := n) (by omega)
  have s2 := shl_tp (n := n) (by omega)
  have m1 : binI .fdiv number 12 = .ok (number / 12) := binI_fdiv (by decide) (by decide)
  have m2 : binI .mod (number / 12) n = .ok (number / 12 % n) := binI_mod (by omega)
  have m3 : binI .mod number 12 = .ok (number % 12) := binI_mod (by decide)
  have l0 : 0 ≤ number / 12 % n := Int.emod_nonneg _ (by omega)
  have l62 : lim62 (2 ^ n) = true := by
    have : 2 ^ n ≤ 2 ^ 4 := Nat.pow_le_pow_right (by decide) h4
    rw [two_nat]
    generalize 2 ^ n = N at this ⊢
    exact lim62_t (by omega) (by omega)
  have tn : ((2 : Int) ^ n).toNat = 2 ^ n := by rw [two_nat, Int.toNat_natCast]
  generalize hl : number / 12 % n = letter at *
  have q := lc_gen (bindf := fun d => bindT (.nm 8) d (wipeE [some (.frz, .int n), some (.frz, .int number), some (.frz, .int a), some (.frz, .int b), some (.frz, .int (tp n - 1)), some (.frz, .int letter), none, none, none] [8])) (test := fun e => noEx (evalIfs [(.cmp .eq (.bin .and (.bin .shr (.var 8) (.var 5)) (.cint 1)) (.cint 1))] e)) (elt := fun e => noEx ((eval (.bin .shl (.cint 1) (.var 8)) e).bind fun v => esc v))
    (fun k : Nat => D.int (k : Int)) (fun k : Nat => bit (k : Int) letter) (fun w => D.int ((2 : Int) ^ w)) (List.range (2 ^ n)) fun k hk => by
      have hk' := List.mem_range.mp hk
      have : 2 ^ n ≤ 2 ^ 4 := Nat.pow_le_pow_right (by decide) h4
      refine ⟨_, r_bT, ?_, fun _ => ?_⟩
      · simp [binI_shr l0, bit]
      · simp [shl_n (n := k) (by omega)]
  have hs := sum_pow (fun k : Nat => bit (k : Int) letter) (2 ^ n)
  have hz : ((((List.range (2 ^ n)).filter fun k : Nat => bit (k : Int) letter).map fun w => D.int ((2 : Int) ^ w)).length ≤ sizeL) = True := szn (by
    rw [List.length_map]
    have g1 := List.length_filter_le (fun k : Nat => bit (k : Int) letter) (List.range (2 ^ n))
    have g2 : 2 ^ n ≤ 2 ^ 4 := Nat.pow_le_pow_right (by decide) h4
    rw [List.length_range] at g1
    omega)
  have hi := intsOf_map (fun w : Nat => (2 : Int) ^ w) ((List.range (2 ^ n)).filter fun k : Nat => bit (k : Int) letter)
  generalize hX : (((List.range (2 ^ n)).filter fun k : Nat => bit (k : Int) letter).map fun w => (2 : Int) ^ w).sum = X at *
  have hX1 : 0 ≤ X ∧ X < tp n := hs
  have core : ∀ kind : Int, number % 12 = kind → ∃ r, (0 ≤ r ∧ r < tp n) ∧ _law_prop [(.frz, .int n), (.frz, .int number), (.frz, .int a), (.frz, .int b)] = .ok (.frz, .int r) := by
    intro kind hk
    rw [hk] at m3
    have o1 := or_lt hX1 hb
    have o2 : 0 ≤ tp n - 1 - X ∧ tp n - 1 - X < tp n := by omega
    have o3 := or_lt o2 hb
    have o4 := or_lt ha hb
    have htp := tp_pos n
    unfold _law_prop
    rw [runDef_eq (by rfl)]
    rw [← rng0] at q
    simp at q
    simp at hz hi
    simp [b__law_prop, s1, s2, m1, m2, hl, l62, tn, q, hz, hi, hX, m3]
    by_cases k1 : kind < 4
    · exact ⟨X, hX1, by simp [k1]⟩
    by_cases k2 : kind < 7
    · exact ⟨_, o2, by simp [k1, k2]⟩
    by_cases k3 : kind = 7
    · exact ⟨_, o1, by simp [k1, k2, k3]⟩
    by_cases k4 : kind = 8
    · exact ⟨_, o3, by simp [k1, k2, k3, k4]⟩
    by_cases k5 : kind = 9
    · exact ⟨_, o4, by simp [k1, k2, k3, k4, k5]⟩
    by_cases k6 : kind = 10
    · exact ⟨_, ha, by simp [k1, k2, k3, k4, k5, k6]⟩
    · exact ⟨tp n - 1, by omega, by simp [k1, k2, k3, k4, k5, k6]⟩
  exact core _ rfl
end Law

namespace Law
open Fx
/-- a rule as the law has it; as the program has it -/
def rD (kind : PySem.Str) (body : Int) (ps : List (Int × Int)) : D := .tup [.str kind, .int body, .lst (psD ps)]
def tD (n : Nat) (kind : PySem.Str) (body : Int) (ps : List (Int × Int)) : D := .ins 2 [.int n, .str kind, .int body, .tup (psD ps)]
/-- how long a rule may last -/
def lng (kind : PySem.Str) (ps : List (Int × Int)) : Int := if kind = till then 1 else (ps.map fun p => p.2 + 1).sum
def optD : Option Int → D
  | none => .non
  | some i => .int i
theorem longest_eq {n : Nat} {kind : PySem.Str} {body : Int} {ps : List (Int × Int)} (hl : ps.length ≤ 4096) : Timed_longest [(.frz, tD n kind body ps)] = .ok (.frz, .int (lng kind ps)) := by
  unfold Timed_longest
  rw [runDef_eq (by rfl)]
  by_cases hk : kind = "till"
  · simp [b_Timed_longest, tD, lng, till, eq_true hk]
  · have q := lc_all (bindf := fun d => bindT (.tp [(.nm 1), (.nm 2)]) d (wipeE [some (.frz, .ins 2 [.int n, .str kind, .int body, .tup (psD ps)]), none, none] [1, 2])) (test := fun e => noEx (evalIfs [] e)) (elt := fun e => noEx ((eval (.bin .add (.var 2) (.cint 1)) e).bind fun v => esc v)) pD (fun p => D.int (p.2 + 1)) ps fun p hp =>
      ⟨_, by simp [pD]; rfl, by rw [r_if0]; rfl, by simp⟩
    have hi := intsOf_map (fun p : Int × Int => p.2 + 1) ps
    have hz := szn (n := ps.length) hl
    have e : List.map pD ps = psD ps := rfl
    rw [e] at q
    simp at q
    simp [b_Timed_longest, tD, lng, till, eq_false hk, q, hi, hz]
theorem total_eq {kind : PySem.Str} {body : Int} {ps : List (Int × Int)} (hl : ps.length ≤ 4096) : _law_total [(.frz, rD kind body ps)] = .ok (.frz, .int (lng kind ps)) := by
  unfold _law_total
  rw [runDef_eq (by rfl)]
  have i0 : atIx [D.str kind, .int body, .lst (psD ps)] 0 = some (.str kind) := rfl
  have i2 : atIx [D.str kind, .int body, .lst (psD ps)] 2 = some (.lst (psD ps)) := rfl
  by_cases hk : kind = "till"
  · simp [b__law_total, rD, lng, till, eq_true hk, i0]
  · have q := lc_all (bindf := fun d => bindT (.nm 1) d (wipeE [some (.frz, .tup [.str kind, .int body, .lst (psD ps)]), none] [1])) (test := fun e => noEx (evalIfs [] e)) (elt := fun e => noEx ((eval (.bin .add (.ix (.var 1) (.cint 1)) (.cint 1)) e).bind fun v => esc v)) pD (fun p => D.int (p.2 + 1)) ps fun p hp => by
      have i1 : atIx [D.int p.1, D.int p.2] 1 = some (.int p.2) := rfl
      exact ⟨_, r_bT, by rw [r_if0]; rfl, by simp [pD, i1]⟩
    have hi := intsOf_map (fun p : Int × Int => p.2 + 1) ps
    have hz := szn (n := ps.length) hl
    have e : List.map pD ps = psD ps := rfl
    rw [e] at q
    simp at q
    simp [b__law_total, rD, lng, till, eq_false hk, q, hi, hz, i0, i2]
def endedM (l : Int) : Option Int := if l = 1 then none else some (l - 1)
theorem ended_eq {d : D} {l : Int} (hd : ∃ fs, d = .ins 2 fs) : Timed_ended [(.frz, d), (.frz, .int l)] = .ok (.frz, optD (endedM l)) := by
  obtain ⟨fs, rfl⟩ := hd
  unfold Timed_ended
  rw [runDef_eq (by rfl)]
  by_cases h : l = 1
  · simp [b_Timed_ended, h, endedM, optD]
  · simp [b_Timed_ended, h, endedM, optD]
def tillM (p : Int × Int) (w : Int) : Option Int := if bit p.2 w then some 0 else if bit p.1 w then some 1 else none
theorem till_move_eq {n : Nat} {kind : PySem.Str} {body w : Int} {p : Int × Int} {ps : List (Int × Int)} (hw : 0 ≤ w) : Timed_till_move [(.frz, tD n kind body (p :: ps)), (.frz, .int w)] = .ok (.frz, optD (tillM p w)) := by
  unfold Timed_till_move
  rw [runDef_eq (by rfl)]
  have i0 : atIx (psD (p :: ps)) 0 = some (pD p) := rfl
  have b1 : decide (PySem.Builtin.bitAnd (p.2 / 2 ^ w.toNat) 1 = 1) = bit p.2 w := rfl
  have b2 : decide (PySem.Builtin.bitAnd (p.1 / 2 ^ w.toNat) 1 = 1) = bit p.1 w := rfl
  by_cases c1 : PySem.Builtin.bitAnd (p.2 / 2 ^ w.toNat) 1 = 1
  · simp [b_Timed_till_move, tD, i0, pD, binI_shr hw, tillM, bit, c1, optD]
  · by_cases c2 : PySem.Builtin.bitAnd (p.1 / 2 ^ w.toNat) 1 = 1
    · simp [b_Timed_till_move, tD, i0, pD, binI_shr hw, tillM, bit, c1, c2, optD]
    · simp [b_Timed_till_move, tD, i0, pD, binI_shr hw, tillM, bit, c1, c2, optD]
/-- which part a number left is in -/
def level (left : Int) : Int → Nat → List (Int × Int) → Nat
  | _, i, [] => i
  | later, i, p :: r => if left > later - p.2 - 1 then i else level left (later - p.2 - 1) (i + 1) r
theorem level_at_eq {n : Nat} {kind : PySem.Str} {body left : Int} {ps : List (Int × Int)} (hl : ps.length ≤ 4096) : Timed_level_at [(.frz, tD n kind body ps), (.frz, .int left)] = .ok (.frz, .int (level left (lng kind ps) 0 ps)) := by
  unfold Timed_level_at
  rw [runDef_eq (by rfl)]
  have hz := szn (n := (psD ps).length) (by rw [psD_len]; exact hl)
  have lq := longest_eq (n := n) (kind := kind) (body := body) (ps := ps) hl
  have loop := for_ind (bindf := fun d env => bindT (.tp [(.nm 3), (.tp [(.nm 4), (.nm 5)])]) d env) (body := fun env => execs lp_Timed_level_at_1 env) (fg := [3, 4, 5]) (items := enumL (psD ps)) (env := [some (.frz, tD n kind body ps), some (.frz, .int left), some (.frz, .int (lng kind ps)), none, none, none]) (Q := fun o => (o = .rt (.frz, D.int (level left (lng kind ps) 0 ps))) ∨ (∃ e : Env, e[0]? = some (some (.frz, tD n kind body ps)) ∧ o = .nx e ∧ level left (lng kind ps) 0 ps = ps.length))
    (P := fun i e => ∃ later, e = [some (.frz, tD n kind body ps), some (.frz, .int left), some (.frz, .int later), none, none, none] ∧ level left (lng kind ps) 0 ps = level left later i (ps.drop i)) (fun i d e hi hP => by
      obtain ⟨later, rfl, hlv⟩ := hP
      obtain ⟨p, hp, rfl⟩ := enum_get hi
      obtain ⟨hil, hp2⟩ := List.getElem?_eq_some_iff.mp hp
      rw [List.drop_eq_getElem_cons hil, hp2] at hlv
      simp only [level] at hlv
      by_cases c : left > later - p.2 - 1
      · rw [if_pos c] at hlv
        refine ⟨_, by simp [pD]; rfl, .inr (.inl ⟨_, by simp [lp_Timed_level_at_1, show later - p.2 - 1 < left from c]; rfl, .inl (by rw [hlv])⟩)⟩
      · rw [if_neg c] at hlv
        refine ⟨_, by simp [pD]; rfl, .inl ⟨_, .inl (by simp [lp_Timed_level_at_1, show ¬ (later - p.2 - 1 < left) from c]; rfl), _, rfl, hlv⟩⟩) (fun e hP => by
      obtain ⟨later, rfl, hlv⟩ := hP
      rw [enum_len] at hlv
      rw [List.drop_eq_nil_of_le (Nat.le_refl _)] at hlv
      exact .inr ⟨_, rfl, rfl, by simpa [level] using hlv⟩) ⟨_, rfl, rfl⟩
  rcases loop with h | ⟨e, he, h, hv⟩
  · simp [tD] at h lq
    simp [b_Timed_level_at, tD, lq, h]
  · simp [tD] at h lq he
    rw [hv]
    simp [b_Timed_level_at, tD, lq, h, he, hz, psD_len, szn hl]
end Law

namespace Law
open Fx
def hd1 (ps : List (Int × Int)) : Int × Int := ps.headD (0, 0)
/-- the program's step -/
def mvM (kind : PySem.Str) (body : Int) (ps : List (Int × Int)) (left w : Int) : Option Int :=
  if left = 0 ∧ bit body w = false then some 0 else
    if kind = till then tillM (hd1 ps) w else
      if bit ((ps[level (if left = 0 then lng kind ps else left) (lng kind ps) 0 ps]?).getD (0, 0)).1 w = false then endedM (if left = 0 then lng kind ps else left)
      else if kind = again then some (lng kind ps) else some 0
theorem and1 (x : Int) : PySem.Builtin.bitAnd x 1 = 0 ∨ PySem.Builtin.bitAnd x 1 = 1 := by
  rw [PyProof.Rows.bitAnd_m1]
  omega
theorem bit_t {p w : Int} (h : bit p w = true) : PySem.Builtin.bitAnd (p / 2 ^ w.toNat) 1 = 1 := of_decide_eq_true h
theorem bit_f {p w : Int} (h : bit p w = false) : PySem.Builtin.bitAnd (p / 2 ^ w.toNat) 1 = 0 := by
  rcases and1 (p / 2 ^ w.toNat) with e | e
  · exact e
  · unfold bit at h; rw [e] at h; simp at h
theorem move_eq {n : Nat} {kind : PySem.Str} {body left w : Int} {ps : List (Int × Int)} (hl : ps.length ≤ 4096) (hw : 0 ≤ w) (hp : ps ≠ [])
    (hlev : kind ≠ till → level (if left = 0 then lng kind ps else left) (lng kind ps) 0 ps < ps.length) : Timed_move [(.frz, tD n kind body ps), (.frz, .int left), (.frz, .int w)] = .ok (.frz, optD (mvM kind body ps left w)) := by
  obtain ⟨p, r, rfl⟩ : ∃ p r, ps = p :: r := by
    cases ps with
    | nil => exact absurd rfl hp
    | cons p r => exact ⟨p, r, rfl⟩
  unfold Timed_move
  rw [runDef_eq (by rfl)]
  have lq := longest_eq (n := n) (kind := kind) (body := body) (ps := p :: r) hl
  have tq := till_move_eq (n := n) (kind := kind) (body := body) (p := p) (ps := r) hw
  have hhd : hd1 (p :: r) = p := rfl
  generalize hps : p :: r = ps at *
  have sh := fun x : Int => binI_shr (i := x) hw
  have core : ∀ now : Int, (kind ≠ till → level now (lng kind ps) 0 ps < ps.length) → ∀ b1 : Bool, bit body w = b1 →
      (left = 0 → now = lng kind ps) → (left ≠ 0 → now = left) → ¬ (left = 0 ∧ b1 = false) →
      retO (execs b_Timed_move [some (.frz, tD n kind body ps), some (.frz, .int left), some (.frz, .int w), none, none]) = .ok (.frz, optD (if kind = till then tillM p w else if bit ((ps[level now (lng kind ps) 0 ps]?).getD (0, 0)).1 w = false then endedM now else if kind = again then some (lng kind ps) else some 0)) := by
    intro now hlev b1 hb hn1 hn2 hc
    have hlv := level_at_eq (n := n) (kind := kind) (body := body) (left := now) (ps := ps) hl
    have eq1 := ended_eq (d := tD n kind body ps) (l := now) ⟨_, rfl⟩
    simp only [tD] at *
    by_cases hk : kind = till
    · have hk2 : kind = "till" := hk
      rw [if_pos hk]
      by_cases h0 : left = 0
      · cases b1 with
        | false => exact absurd ⟨h0, rfl⟩ hc
        | true =>
          have e1 := bit_t hb
          simp [b_Timed_move, h0, eq_true hk2, tq, sh, e1, lq]
      · simp [b_Timed_move, h0, eq_true hk2, tq]
    · have hk2 : ¬ kind = "till" := hk
      rw [if_neg hk]
      obtain ⟨q, hq⟩ : ∃ q, ps[level now (lng kind ps) 0 ps]? = some q := ⟨_, List.getElem?_eq_getElem (hlev hk)⟩
      rw [hq]
      have hq2 : (psD ps)[level now (lng kind ps) 0 ps]? = some (.tup [.int q.1, .int q.2]) := by simp [psD, hq, pD]
      have i0 : atIx [D.int q.1, D.int q.2] 0 = some (.int q.1) := rfl
      simp only [Option.getD_some]
      by_cases h0 : left = 0
      · have hn := hn1 h0
        subst hn
        cases b1 with
        | false => exact absurd ⟨h0, rfl⟩ hc
        | true =>
          have e1 := bit_t hb
          by_cases hb2 : bit q.1 w = false
          · rw [if_pos hb2]
            have e2 := bit_f hb2
            simp [b_Timed_move, h0, eq_false hk2, sh, e1, e2, lq, hlv, atIx_nat, hq2, i0, eq1]
          · rw [if_neg hb2]
            have e2 := bit_t (by simpa using hb2)
            by_cases hk3 : kind = again
            · have hk4 : kind = "again" := hk3
              simp [b_Timed_move, h0, eq_false hk2, sh, e1, e2, lq, hlv, atIx_nat, hq2, i0, eq_true hk4, eq_true hk3, optD]
            · have hk4 : ¬ kind = "again" := hk3
              simp [b_Timed_move, h0, eq_false hk2, sh, e1, e2, lq, hlv, atIx_nat, hq2, i0, eq_false hk4, eq_false hk3, optD]
      · have hn := hn2 h0
        subst hn
        by_cases hb2 : bit q.1 w = false
        · rw [if_pos hb2]
          have e2 := bit_f hb2
          simp [b_Timed_move, h0, eq_false hk2, sh, e2, lq, hlv, atIx_nat, hq2, i0, eq1]
        · rw [if_neg hb2]
          have e2 := bit_t (by simpa using hb2)
          by_cases hk3 : kind = again
          · have hk4 : kind = "again" := hk3
            simp [b_Timed_move, h0, eq_false hk2, sh, e2, lq, hlv, atIx_nat, hq2, i0, eq_true hk4, eq_true hk3, optD]
          · have hk4 : ¬ kind = "again" := hk3
            simp [b_Timed_move, h0, eq_false hk2, sh, e2, lq, hlv, atIx_nat, hq2, i0, eq_false hk4, eq_false hk3, optD]
  unfold mvM
  by_cases hc : left = 0 ∧ bit body w = false
  · rw [if_pos hc]
    have e1 := bit_f hc.2
    simp [b_Timed_move, tD, hc.1, sh, e1, optD]
  · rw [if_neg hc, hhd]
    exact core _ hlev _ rfl (fun h => if_pos h) (fun h => if_neg h) hc
end Law

namespace Law
open Fx
/-- the law's walk through the parts -/
def sft (j w : Int) : Int → List (Int × Int) → Option Int
  | first, [] => if j = first - 1 then none else some (first - 1 - j)
  | first, p :: r => if (first ≤ j ∧ j ≤ first + p.2) ∧ bit p.1 w = true then some 0 else sft j w (first + p.2 + 1) r
/-- the law's number left -/
def lfM (kind : PySem.Str) (ps : List (Int × Int)) (since j w : Int) : Option Int :=
  if kind = till then tillM (hd1 ps) w
  else if kind = again then (if bit (hd1 ps).1 w = true then some ((hd1 ps).2 + 1) else if j = since + (hd1 ps).2 then none else some (since + (hd1 ps).2 - j))
  else sft j w since ps
theorem left_loop {kind : PySem.Str} {body since j w : Int} {ps : List (Int × Int)} (hw : 0 ≤ w) :
    let env0 : Env := [some (.frz, rD kind body ps), some (.frz, .int since), some (.frz, .int j), some (.frz, .int w), some (.frz, .lst (psD ps)), some (.frz, .int since), none]
    (forLoop (fun d env => bindT (.nm 6) d env) (fun env => execs lp__law_left_1 env) [6] (psD ps) env0 = .rt (.frz, .int 0) ∧ sft j w since ps = some 0) ∨
    ∃ f : Int, forLoop (fun d env => bindT (.nm 6) d env) (fun env => execs lp__law_left_1 env) [6] (psD ps) env0 = .nx [some (.frz, rD kind body ps), some (.frz, .int since), some (.frz, .int j), some (.frz, .int w), some (.frz, .lst (psD ps)), some (.frz, .int f), none] ∧ sft j w since ps = if j = f - 1 then none else some (f - 1 - j) := by
  intro env0
  refine for_ind (Q := fun o => (o = .rt (.frz, .int 0) ∧ sft j w since ps = some 0) ∨
      ∃ f : Int, o = .nx [some (.frz, rD kind body ps), some (.frz, .int since), some (.frz, .int j), some (.frz, .int w), some (.frz, .lst (psD ps)), some (.frz, .int f), none] ∧ sft j w since ps = if j = f - 1 then none else some (f - 1 - j))
    (P := fun i e => ∃ f : Int, e = [some (.frz, rD kind body ps), some (.frz, .int since), some (.frz, .int j), some (.frz, .int w), some (.frz, .lst (psD ps)), some (.frz, .int f), none] ∧ sft j w since ps = sft j w f (ps.drop i)) (fun i d e hi hP => ?_) (fun e hP => ?_) ⟨since, rfl, rfl⟩
  · obtain ⟨f, rfl, hs⟩ := hP
    unfold psD at hi
    rw [List.getElem?_map] at hi
    cases hp : ps[i]? with
    | none => rw [hp] at hi; cases hi
    | some p =>
      rw [hp] at hi
      cases hi
      obtain ⟨hil, hp2⟩ := List.getElem?_eq_some_iff.mp hp
      rw [List.drop_eq_getElem_cons hil, hp2] at hs
      simp only [sft] at hs
      have i0 : atIx [D.int p.1, D.int p.2] 0 = some (.int p.1) := rfl
      have i1 : atIx [D.int p.1, D.int p.2] 1 = some (.int p.2) := rfl
      have hh := holds_eq (p := p.1) hw
      by_cases c1 : f ≤ j
      · by_cases c2 : j ≤ f + p.2
        · by_cases c3 : bit p.1 w = true
          · rw [if_pos ⟨⟨c1, c2⟩, c3⟩] at hs
            exact ⟨_, r_bT, .inr (.inl ⟨_, by simp [lp__law_left_1, pD, i0, i1, hh, c1, c2, c3] <;> rfl, .inl ⟨rfl, hs⟩⟩)⟩
          · rw [if_neg (fun z => c3 z.2)] at hs
            exact ⟨_, r_bT, .inl ⟨_, .inl (by simp [lp__law_left_1, pD, i0, i1, hh, c1, c2, c3]; rfl), _, by simp <;> rfl, hs⟩⟩
        · rw [if_neg (fun z => c2 z.1.2)] at hs
          exact ⟨_, r_bT, .inl ⟨_, .inl (by simp [lp__law_left_1, pD, i0, i1, hh, c1, c2]; rfl), _, by simp <;> rfl, hs⟩⟩
      · rw [if_neg (fun z => c1 z.1.1)] at hs
        exact ⟨_, r_bT, .inl ⟨_, .inl (by simp [lp__law_left_1, pD, i0, i1, hh, c1]; rfl), _, by simp <;> rfl, hs⟩⟩
  · obtain ⟨f, rfl, hs⟩ := hP
    rw [psD_len, List.drop_eq_nil_of_le (Nat.le_refl _)] at hs
    exact .inr ⟨f, rfl, hs⟩
theorem left_eq {kind : PySem.Str} {body since j w : Int} {ps : List (Int × Int)} (hw : 0 ≤ w) (hp : ps ≠ []) :
    _law_left [(.frz, rD kind body ps), (.frz, .int since), (.frz, .int j), (.frz, .int w)] = .ok (.frz, optD (lfM kind ps since j w)) := by
  obtain ⟨p, r, rfl⟩ : ∃ p r, ps = p :: r := by
    cases ps with
    | nil => exact absurd rfl hp
    | cons p r => exact ⟨p, r, rfl⟩
  unfold _law_left
  rw [runDef_eq (by rfl)]
  have loop := left_loop (kind := kind) (body := body) (since := since) (j := j) (ps := p :: r) hw
  have x0 : atIx [D.str kind, .int body, .lst (psD (p :: r))] 0 = some (.str kind) := rfl
  have x2 : atIx [D.str kind, .int body, .lst (psD (p :: r))] 2 = some (.lst (psD (p :: r))) := rfl
  have y0 : atIx (psD (p :: r)) 0 = some (.tup [.int p.1, .int p.2]) := rfl
  have i0 : atIx [D.int p.1, D.int p.2] 0 = some (.int p.1) := rfl
  have i1 : atIx [D.int p.1, D.int p.2] 1 = some (.int p.2) := rfl
  have h1 := holds_eq (p := p.1) hw
  have h2 := holds_eq (p := p.2) hw
  have hhd : hd1 (p :: r) = p := rfl
  simp only [rD] at *
  unfold lfM
  rw [hhd]
  generalize hps : p :: r = ps at *
  by_cases hk : kind = till
  · have hk2 : kind = "till" := hk
    rw [if_pos hk]
    by_cases c1 : bit p.2 w = true
    · simp [b__law_left, x0, x2, y0, i0, i1, h1, h2, eq_true hk2, tillM, c1, optD]
    · by_cases c2 : bit p.1 w = true
      · simp [b__law_left, x0, x2, y0, i0, i1, h1, h2, eq_true hk2, tillM, c1, c2, optD]
      · simp [b__law_left, x0, x2, y0, i0, i1, h1, h2, eq_true hk2, tillM, c1, c2, optD]
  · have hk2 : ¬ kind = "till" := hk
    rw [if_neg hk]
    by_cases hk3 : kind = again
    · have hk4 : kind = "again" := hk3
      rw [if_pos hk3]
      by_cases c1 : bit p.1 w = true
      · simp [b__law_left, x0, x2, y0, i0, i1, h1, eq_false hk2, eq_true hk4, c1, optD]
      · by_cases c2 : j = since + p.2
        · simp [b__law_left, x0, x2, y0, i0, i1, h1, eq_false hk2, eq_true hk4, c1, c2, optD]
        · simp [b__law_left, x0, x2, y0, i0, i1, h1, eq_false hk2, eq_true hk4, c1, c2, optD]
    · have hk4 : ¬ kind = "again" := hk3
      rw [if_neg hk3]
      rcases loop with ⟨e, hs⟩ | ⟨f, e, hs⟩
      · rw [hs]
        simp at e
        simp [b__law_left, x0, x2, eq_false hk2, eq_false hk4, e, optD]
      · rw [hs]
        simp at e
        by_cases c : j = f - 1
        · simp [b__law_left, x0, x2, eq_false hk2, eq_false hk4, e, optD, eq_true c]
        · simp [b__law_left, x0, x2, eq_false hk2, eq_false hk4, e, optD, c]
end Law

namespace Law
open Fx
def tot (ps : List (Int × Int)) : Int := (ps.map fun p => p.2 + 1).sum
theorem tot_cons (p : Int × Int) (r : List (Int × Int)) : tot (p :: r) = p.2 + 1 + tot r := by simp [tot]
theorem tot_nn : ∀ {ps : List (Int × Int)}, (∀ p ∈ ps, 0 ≤ p.2) → 0 ≤ tot ps
  | [], _ => by simp [tot]
  | p :: r, h => by
    rw [tot_cons]
    have h1 := h p (by simp)
    have h2 := tot_nn (ps := r) fun q hq => h q (by simp [hq])
    omega
theorem sft_past {j w : Int} : ∀ {ps : List (Int × Int)} {f : Int}, (∀ p ∈ ps, 0 ≤ p.2) → j < f → sft j w f ps = if j = f + tot ps - 1 then none else some (f + tot ps - 1 - j)
  | [], f, _, h => by
    simp only [sft, tot, List.map_nil, List.sum_nil, Int.add_zero]
  | p :: r, f, hp, h => by
    have h1 := hp p (by simp)
    simp only [sft]
    rw [if_neg (fun z => by omega), sft_past (fun q hq => hp q (by simp [hq])) (by omega), tot_cons, show f + p.2 + 1 + tot r - 1 = f + (p.2 + 1 + tot r) - 1 by omega]
theorem core {w : Int} : ∀ {ps : List (Int × Int)} {later f t : Int} {i : Nat}, (∀ p ∈ ps, 0 ≤ p.2) → 0 ≤ t → t < tot ps →
    ∃ k p, level (later - t) later i ps = i + k ∧ ps[k]? = some p ∧ sft (f + t) w f ps = if bit p.1 w = true then some 0 else if t = tot ps - 1 then none else some (tot ps - 1 - t)
  | [], later, f, t, i, _, h0, h => by simp [tot] at h; omega
  | p :: r, later, f, t, i, hp, h0, h => by
    have h1 := hp p (by simp)
    have hr : ∀ q ∈ r, 0 ≤ q.2 := fun q hq => hp q (by simp [hq])
    rw [tot_cons] at h ⊢
    by_cases c : t ≤ p.2
    · refine ⟨0, p, ?_, rfl, ?_⟩
      · simp only [level]
        rw [if_pos (by omega)]
        rfl
      · simp only [sft]
        by_cases hb : bit p.1 w = true
        · rw [if_pos ⟨⟨by omega, by omega⟩, hb⟩, if_pos hb]
        · rw [if_neg (fun z => hb z.2), if_neg hb, sft_past hr (by omega)]
          by_cases e : t = p.2 + 1 + tot r - 1
          · rw [if_pos (by omega), if_pos e]
          · rw [if_neg (by omega), if_neg e, show f + p.2 + 1 + tot r - 1 - (f + t) = p.2 + 1 + tot r - 1 - t by omega]
    · obtain ⟨k, q, e1, e2, e3⟩ := core (w := w) (ps := r) (later := later - p.2 - 1) (f := f + p.2 + 1) (t := t - p.2 - 1) (i := i + 1) hr (by omega) (by omega)
      refine ⟨k + 1, q, ?_, e2, ?_⟩
      · simp only [level]
        rw [if_neg (by omega), show later - t = later - p.2 - 1 - (t - p.2 - 1) by omega, e1]
        omega
      · simp only [sft]
        rw [if_neg (fun z => by omega), show f + t = f + p.2 + 1 + (t - p.2 - 1) by omega, e3]
        by_cases hb : bit q.1 w = true
        · rw [if_pos hb, if_pos hb]
        · rw [if_neg hb, if_neg hb]
          by_cases e : t = p.2 + 1 + tot r - 1
          · rw [if_pos (by omega), if_pos e]
          · rw [if_neg (by omega), if_neg e, show tot r - 1 - (t - p.2 - 1) = p.2 + 1 + tot r - 1 - t by omega]
/-- a right rule -/
structure Rt (kind : PySem.Str) (ps : List (Int × Int)) : Prop where
  ne : ps ≠ []
  few : ps.length ≤ 3
  one : kind ≠ soon → ∃ p, ps = [p]
  kd : kind = soon ∨ kind = again ∨ kind = till
  nn : kind ≠ till → ∀ p ∈ ps, 0 ≤ p.2
theorem lng_pos {kind : PySem.Str} {ps : List (Int × Int)} (r : Rt kind ps) : 1 ≤ lng kind ps := by
  unfold lng
  by_cases h : kind = till
  · rw [if_pos h]; omega
  · rw [if_neg h]
    obtain ⟨p, q, e⟩ : ∃ p q, ps = p :: q := by
      cases ps with
      | nil => exact absurd rfl r.ne
      | cons p q => exact ⟨p, q, rfl⟩
    have nn := r.nn h
    subst e
    have h1 := nn p (by simp)
    have h2 := tot_nn (ps := q) fun z hz => nn z (by simp [hz])
    have h3 := tot_cons p q
    unfold tot at h2 h3
    omega
/-- THE STEP: the program's and the law's, t moments behind the start -/
theorem step_same {kind : PySem.Str} {ps : List (Int × Int)} {body since t left w : Int} (r : Rt kind ps) (h0 : 0 ≤ t) (h1 : t < lng kind ps) (hl : left = lng kind ps - t ∨ (left = 0 ∧ t = 0 ∧ bit body w = true)) :
    mvM kind body ps left w = lfM kind ps since (since + t) w ∧ (kind ≠ till → level (if left = 0 then lng kind ps else left) (lng kind ps) 0 ps < ps.length) := by
  have hnow : (if left = 0 then lng kind ps else left) = lng kind ps - t := by
    rcases hl with e | ⟨e1, e2, _⟩
    · rw [if_neg (by omega), e]
    · rw [if_pos e1, e2]; omega
  have hc : ¬ (left = 0 ∧ bit body w = false) := by
    rcases hl with e | ⟨_, _, e⟩
    · omega
    · rw [e]; simp
  unfold mvM lfM
  rw [if_neg hc, hnow]
  by_cases hk : kind = till
  · rw [if_pos hk, if_pos hk]
    exact ⟨rfl, fun z => absurd hk z⟩
  · have hlng : lng kind ps = tot ps := by unfold lng tot; rw [if_neg hk]
    rw [if_neg hk, if_neg hk]
    obtain ⟨k, p, e1, e2, e3⟩ := core (w := w) (ps := ps) (later := lng kind ps) (f := since) (t := t) (i := 0) (r.nn hk) h0 (by rw [← hlng]; exact h1)
    rw [Nat.zero_add] at e1
    rw [e1, e2]
    refine ⟨?_, fun _ => (List.getElem?_eq_some_iff.mp e2).1⟩
    simp only [Option.getD_some]
    by_cases hb : bit p.1 w = false
    · rw [if_pos hb]
      by_cases ha : kind = again
      · rw [if_pos ha]
        obtain ⟨q, hq⟩ := r.one (by rw [ha]; decide)
        subst hq
        have hk0 : k = 0 := by have := (List.getElem?_eq_some_iff.mp e2).1; simp at this; exact this
        subst hk0
        cases e2
        have ht : tot [p] = p.2 + 1 := by simp [tot]
        rw [show hd1 [p] = p from rfl, if_neg (by rw [hb]; simp)]
        unfold endedM
        by_cases c : t = p.2
        · rw [if_pos (by omega), if_pos (by omega)]
        · rw [if_neg (by omega), if_neg (by omega), hlng, ht]
          congr 1
          omega
      · rw [if_neg ha, e3, if_neg (by rw [hb]; simp)]
        unfold endedM
        by_cases c : t = tot ps - 1
        · rw [if_pos (by omega), if_pos c]
        · rw [if_neg (by omega), if_neg c, hlng]
          congr 1
          omega
    · have hb' : bit p.1 w = true := by simpa using hb
      rw [if_neg hb]
      by_cases ha : kind = again
      · rw [if_pos ha, if_pos ha]
        obtain ⟨q, hq⟩ := r.one (by rw [ha]; decide)
        subst hq
        have hk0 : k = 0 := by have := (List.getElem?_eq_some_iff.mp e2).1; simp at this; exact this
        subst hk0
        cases e2
        rw [show hd1 [p] = p from rfl, if_pos hb', hlng]
        simp [tot]
      · rw [if_neg ha, if_neg ha, e3, if_pos hb']
end Law

namespace Law
open Fx
theorem law_move_eq {kind : PySem.Str} {body left w : Int} {ps : List (Int × Int)} (hl : ps.length ≤ 4096) (hw : 0 ≤ w) (hp : ps ≠ []) (h0 : 0 ≤ left) :
    _law_move [(.frz, rD kind body ps), (.frz, .int left), (.frz, .int w)] = .ok (.frz, optD (if left = 0 ∧ bit body w = false then some 0 else lfM kind ps 0 (if 0 < left then lng kind ps - left else 0) w)) := by
  unfold _law_move
  rw [runDef_eq (by rfl)]
  have hh := holds_eq (p := body) hw
  have tq := total_eq (kind := kind) (body := body) (ps := ps) hl
  have lq := fun j : Int => left_eq (kind := kind) (body := body) (since := 0) (j := j) (ps := ps) hw hp
  have x1 : atIx [D.str kind, .int body, .lst (psD ps)] 1 = some (.int body) := rfl
  simp only [rD] at *
  by_cases c : left = 0
  · subst c
    by_cases hb : bit body w = false
    · simp [b__law_move, x1, hh, hb, optD]
    · have hb' : bit body w = true := by simpa using hb
      simp [b__law_move, x1, hh, hb', lq]
  · have c2 : 0 < left := by omega
    simp [b__law_move, x1, hh, c, c2, tq, lq]
/-- from a number left, both the same -/
theorem moves_same {kind : PySem.Str} {body left w : Int} {ps : List (Int × Int)} (r : Rt kind ps) (h0 : 0 ≤ left) (h1 : left ≤ lng kind ps) :
    mvM kind body ps left w = (if left = 0 ∧ bit body w = false then some 0 else lfM kind ps 0 (if 0 < left then lng kind ps - left else 0) w) ∧ (kind ≠ till → level (if left = 0 then lng kind ps else left) (lng kind ps) 0 ps < ps.length) := by
  have lp := lng_pos r
  by_cases c : left = 0
  · subst c
    by_cases hb : bit body w = false
    · refine ⟨?_, ?_⟩
      · unfold mvM
        rw [if_pos ⟨rfl, hb⟩, if_pos ⟨rfl, hb⟩]
      · intro hk
        have hlng : lng kind ps = tot ps := by unfold lng tot; rw [if_neg hk]
        obtain ⟨k, p, e1, e2, _⟩ := core (w := w) (ps := ps) (later := lng kind ps) (f := 0) (t := 0) (i := 0) (r.nn hk) (by omega) (by omega)
        rw [if_pos rfl]
        rw [Int.sub_zero] at e1
        rw [e1, Nat.zero_add]
        exact (List.getElem?_eq_some_iff.mp e2).1
    · have hb' : bit body w = true := by simpa using hb
      have q := step_same (body := body) (since := 0) (t := 0) (left := 0) (w := w) r (by omega) (by omega) (.inr ⟨rfl, rfl, hb'⟩)
      rw [if_neg (fun z => hb z.2), if_neg (by omega)]
      simpa using q
  · have q := step_same (body := body) (since := 0) (t := lng kind ps - left) (left := left) (w := w) r (by omega) (by omega) (.inl (by omega))
    rw [if_neg (fun z => c z.1), if_pos (by omega)]
    simpa using q
/-- all numbers left of a run -/
def hist (kind : PySem.Str) (body : Int) (ps : List (Int × Int)) : List Int → Int → List (Option Int)
  | [], _ => []
  | w :: r, l => mvM kind body ps l w :: (match mvM kind body ps l w with
    | none => []
    | some l' => hist kind body ps r l')
/-- where the law's walk stands: the start, the number left -/
def At (kind : PySem.Str) (ps : List (Int × Int)) (j : Int) (since : Option Int) (l : Int) : Prop :=
  (since = none ∧ l = 0) ∨ ∃ s, since = some s ∧ ((kind = till ∧ l = 1) ∨ (kind ≠ till ∧ s ≤ j ∧ j - s < lng kind ps ∧ l = lng kind ps - (j - s)))
/-- one moment of the law's walk -/
def nextS (kind : PySem.Str) (ps : List (Int × Int)) (j w : Int) (since : Option Int) (l : Int) : Option Int :=
  if l = 0 then none else if kind = again ∧ bit (hd1 ps).1 w = true then some (j + 1) else since
theorem lf_next {kind : PySem.Str} {ps : List (Int × Int)} {S t w l' : Int} (r : Rt kind ps) (h0 : 0 ≤ t) (h1 : kind ≠ till → t < lng kind ps) (h : lfM kind ps S (S + t) w = some l') (hl : l' ≠ 0) :
    At kind ps (S + t + 1) (if kind = again ∧ bit (hd1 ps).1 w = true then some (S + t + 1) else some S) l' := by
  unfold lfM at h
  by_cases hk : kind = till
  · rw [if_pos hk] at h
    have hna : ¬ (kind = again ∧ bit (hd1 ps).1 w = true) := fun z => by rw [hk] at z; exact absurd z.1 (by decide)
    rw [if_neg hna]
    refine .inr ⟨S, rfl, .inl ⟨hk, ?_⟩⟩
    unfold tillM at h
    split at h
    · cases h; exact absurd rfl hl
    · split at h
      · cases h; rfl
      · cases h
  · have h1 := h1 hk
    have hlng : lng kind ps = tot ps := by unfold lng tot; rw [if_neg hk]
    rw [if_neg hk] at h
    by_cases ha : kind = again
    · rw [if_pos ha] at h
      obtain ⟨q, hq⟩ := r.one (by rw [ha]; decide)
      subst hq
      have ht : tot [q] = q.2 + 1 := by simp [tot]
      rw [show hd1 [q] = q from rfl] at h ⊢
      by_cases hb : bit q.1 w = true
      · rw [if_pos hb] at h
        cases h
        rw [if_pos ⟨ha, hb⟩]
        exact .inr ⟨_, rfl, .inr ⟨hk, by omega, by omega, by omega⟩⟩
      · rw [if_neg hb] at h
        rw [if_neg (fun z => hb z.2)]
        split at h
        · cases h
        · cases h
          exact .inr ⟨_, rfl, .inr ⟨hk, by omega, by omega, by omega⟩⟩
    · rw [if_neg ha] at h
      obtain ⟨k, p, _, _, e3⟩ := core (w := w) (ps := ps) (later := 0) (f := S) (t := t) (i := 0) (r.nn hk) h0 (by omega)
      rw [if_neg (fun z => ha z.1)]
      rw [e3] at h
      split at h
      · cases h; exact absurd rfl hl
      · split at h
        · cases h
        · cases h
          exact .inr ⟨_, rfl, .inr ⟨hk, by omega, by omega, by omega⟩⟩
theorem at_step {kind : PySem.Str} {ps : List (Int × Int)} {body j l w : Int} {since : Option Int} (r : Rt kind ps) (a : At kind ps j since l) :
    mvM kind body ps l w = (match (if since = none ∧ bit body w = true then some j else since) with
      | none => some 0
      | some s => lfM kind ps s j w) ∧ (kind ≠ till → level (if l = 0 then lng kind ps else l) (lng kind ps) 0 ps < ps.length) ∧
      ∀ l', mvM kind body ps l w = some l' → At kind ps (j + 1) (nextS kind ps j w (if since = none ∧ bit body w = true then some j else since) l') l' := by
  have lp := lng_pos r
  have fin : ∀ S t : Int, 0 ≤ t → (kind ≠ till → t < lng kind ps) → S + t = j → mvM kind body ps l w = lfM kind ps S j w → ∀ l', mvM kind body ps l w = some l' → At kind ps (j + 1) (nextS kind ps j w (some S) l') l' := by
    intro S t h0 h1 hj he l' hl
    unfold nextS
    by_cases c : l' = 0
    · rw [if_pos c]; exact .inl ⟨rfl, c⟩
    · rw [if_neg c]
      rw [he, ← hj] at hl
      have := lf_next r h0 h1 hl c
      rw [hj] at this
      exact this
  rcases a with ⟨rfl, rfl⟩ | ⟨s, rfl, ⟨hk, rfl⟩ | ⟨hk, hs, ht, hl⟩⟩
  · by_cases hb : bit body w = true
    · rw [if_pos ⟨rfl, hb⟩]
      have q := step_same (body := body) (since := j) (t := 0) (left := 0) (w := w) r (by omega) (by omega) (.inr ⟨rfl, rfl, hb⟩)
      rw [Int.add_zero] at q
      exact ⟨q.1, q.2, fin j 0 (by omega) (fun _ => by omega) (by omega) q.1⟩
    · have hb' : bit body w = false := by simpa using hb
      rw [if_neg (fun z => hb z.2)]
      have e : mvM kind body ps 0 w = some 0 := by unfold mvM; rw [if_pos ⟨rfl, hb'⟩]
      refine ⟨e, (moves_same (body := body) (w := w) r (by omega) (by omega)).2, fun l' hl => ?_⟩
      rw [e] at hl
      cases hl
      unfold nextS
      rw [if_pos rfl]
      exact .inl ⟨rfl, rfl⟩
  · rw [if_neg (fun z => by cases z.1)]
    have e : mvM kind body ps 1 w = lfM kind ps s j w := by
      unfold mvM lfM
      rw [if_neg (fun z => by cases z.1), if_pos hk, if_pos hk]
    refine ⟨e, fun z => absurd hk z, fun l' hl => ?_⟩
    unfold nextS
    by_cases c : l' = 0
    · rw [if_pos c]; exact .inl ⟨rfl, c⟩
    · rw [if_neg c, if_neg (fun z => by rw [hk] at z; exact absurd z.1 (by decide))]
      refine .inr ⟨s, rfl, .inl ⟨hk, ?_⟩⟩
      rw [e] at hl
      unfold lfM at hl
      rw [if_pos hk] at hl
      unfold tillM at hl
      split at hl
      · cases hl; exact absurd rfl c
      · split at hl
        · cases hl; rfl
        · cases hl
  · rw [if_neg (fun z => by cases z.1)]
    have q := step_same (body := body) (since := s) (t := j - s) (left := l) (w := w) r (by omega) ht (.inl hl)
    rw [show s + (j - s) = j by omega] at q
    exact ⟨q.1, q.2, fin s (j - s) (by omega) (fun _ => ht) (by omega) q.1⟩
end Law

namespace Law
open Fx
def optL (xs : List (Option Int)) : List D := xs.map optD
theorem optL_n (t : List (Option Int)) : optL t ++ [D.non] = optL (t ++ [none]) := by simp [optL, optD]
theorem optL_s (t : List (Option Int)) (l : Int) : optL t ++ [D.int l] = optL (t ++ [some l]) := by simp [optL, optD]
theorem hist_body {kind : PySem.Str} {body w l : Int} {j : Nat} {since : Option Int} {ps : List (Int × Int)} {run : List Int} {told : List (Option Int)} (r : Rt kind ps) (hw : 0 ≤ w) (hr : run[j]? = some w) (hz : told.length ≤ 1000) (a : At kind ps j since l) :
    let env1 : Env := [some (.frz, rD kind body ps), some (.frz, .tup (intL run)), some (.frz, optD since), some (.own, .lst (optL told)), some (.frz, .int j), none]
    (mvM kind body ps l w = none ∧ execs lp__law_history_1 env1 = .rt (.own, .lst (optL (told ++ [none])))) ∨
    ∃ l', mvM kind body ps l w = some l' ∧ execs lp__law_history_1 env1 = .nx [some (.frz, rD kind body ps), some (.frz, .tup (intL run)), some (.frz, optD (nextS kind ps j w (if since = none ∧ bit body w = true then some j else since) l')), some (.own, .lst (optL (told ++ [some l']))), some (.frz, .int j), some (.frz, .int l')] := by
  intro env1
  obtain ⟨p, q, hps⟩ : ∃ p q, ps = p :: q := by
    cases ps with
    | nil => exact absurd rfl r.ne
    | cons p q => exact ⟨p, q, rfl⟩
  have st := (at_step (body := body) (w := w) r a).1
  have hh := holds_eq (p := body) hw
  have hd := holds_eq (p := p.1) hw
  have hhd : hd1 ps = p := by rw [hps]; rfl
  have hlt := szl (n := (optL told).length) (by simp [optL]; omega)
  have x0 : atIx [D.str kind, .int body, .lst (psD ps)] 0 = some (.str kind) := rfl
  have x1 : atIx [D.str kind, .int body, .lst (psD ps)] 1 = some (.int body) := rfl
  have x2 : atIx [D.str kind, .int body, .lst (psD ps)] 2 = some (.lst (psD ps)) := rfl
  have y0 : atIx (psD ps) 0 = some (.tup [.int p.1, .int p.2]) := by rw [hps]; rfl
  have i0 : atIx [D.int p.1, D.int p.2] 0 = some (.int p.1) := rfl
  have rj : (intL run)[j]? = some (.int w) := by simp [intL, hr]
  have le := fun S : Int => left_eq (kind := kind) (body := body) (since := S) (j := j) (ps := ps) hw r.ne
  -- behind the number left
  have tail : ∀ (s1 : Option Int) (m : Option Int), mvM kind body ps l w = m →
      (execs lp__law_history_1 env1 = goOn (.nx [some (.frz, rD kind body ps), some (.frz, .tup (intL run)), some (.frz, optD s1), some (.own, .lst (optL told)), some (.frz, .int j), some (.frz, optD m)]) (fun e => execs (lp__law_history_1.drop 3) e)) →
      (m = none ∧ execs lp__law_history_1 env1 = .rt (.own, .lst (optL (told ++ [none])))) ∨
      ∃ l', m = some l' ∧ execs lp__law_history_1 env1 = .nx [some (.frz, rD kind body ps), some (.frz, .tup (intL run)), some (.frz, optD (nextS kind ps j w s1 l')), some (.own, .lst (optL (told ++ [some l']))), some (.frz, .int j), some (.frz, .int l')] := by
    intro s1 m hm he
    rw [he]
    simp only [rD] at *
    cases m with
    | none => left; refine ⟨rfl, ?_⟩; simp [lp__law_history_1, ownL_eq, optD, hlt, optL_n]
    | some l' =>
      right
      refine ⟨l', rfl, ?_⟩
      unfold nextS
      rw [hhd]
      by_cases c : l' = 0
      · simp [lp__law_history_1, ownL_eq, optD, hlt, optL_s, c]
      · by_cases hk : kind = again
        · have hk4 : kind = "again" := hk
          by_cases hb : bit p.1 w = true
          · simp [lp__law_history_1, ownL_eq, optD, hlt, optL_s, c, x0, x2, y0, i0, atIx_nat, rj, hd, eq_true hk4, eq_true hk, hb]
          · simp [lp__law_history_1, ownL_eq, optD, hlt, optL_s, c, x0, x2, y0, i0, atIx_nat, rj, hd, eq_true hk4, eq_true hk, hb]
        · have hk4 : ¬ kind = "again" := hk
          simp [lp__law_history_1, ownL_eq, optD, hlt, optL_s, c, x0, x2, y0, i0, atIx_nat, rj, hd, eq_false hk4, eq_false hk]
  rcases a with ⟨rfl, rfl⟩ | ⟨s, rfl, _⟩
  · by_cases hb : bit body w = true
    · rw [if_pos ⟨rfl, hb⟩] at st ⊢
      refine tail _ _ rfl ?_
      rw [show mvM kind body ps 0 w = lfM kind ps j j w from st]
      simp only [rD] at *
      cases hm : lfM kind ps j j w with
      | none => have l1 := le j; rw [hm] at l1; simp [env1, rD, lp__law_history_1, optD, x1, atIx_nat, rj, hh, hb] at l1 ⊢; simp [l1]
      | some z => have l1 := le j; rw [hm] at l1; simp [env1, rD, lp__law_history_1, optD, x1, atIx_nat, rj, hh, hb] at l1 ⊢; simp [l1]
    · have hb' : bit body w = false := by simpa using hb
      rw [if_neg (fun z => hb z.2)] at st ⊢
      refine tail _ _ rfl ?_
      rw [show mvM kind body ps 0 w = some 0 from st]
      simp only [rD] at *
      simp [env1, rD, lp__law_history_1, optD, x1, atIx_nat, rj, hh, hb']
  · rw [if_neg (fun z => by cases z.1)] at st ⊢
    refine tail _ _ rfl ?_
    rw [show mvM kind body ps l w = lfM kind ps s j w from st]
    simp only [rD] at *
    cases hm : lfM kind ps s j w with
    | none => have l1 := le s; rw [hm] at l1; simp [env1, rD, lp__law_history_1, optD, x1, atIx_nat, rj, hh] at l1 ⊢; simp [l1]
    | some z => have l1 := le s; rw [hm] at l1; simp [env1, rD, lp__law_history_1, optD, x1, atIx_nat, rj, hh] at l1 ⊢; simp [l1]
end Law

namespace Law
open Fx
theorem history_eq {kind : PySem.Str} {body : Int} {ps : List (Int × Int)} {run : List Int} (r : Rt kind ps) (hw : ∀ w ∈ run, 0 ≤ w) (hz : run.length ≤ 1000) :
    _law_history [(.frz, rD kind body ps), (.frz, .tup (intL run))] = .ok (.own, .lst (optL (hist kind body ps run 0))) := by
  unfold _law_history
  rw [runDef_eq (by rfl)]
  have loop := for_ind (bindf := fun d env => bindT (.nm 4) d env) (body := fun env => execs lp__law_history_1 env) (fg := [4, 5]) (items := rngL 0 run.length) (env := [some (.frz, rD kind body ps), some (.frz, .tup (intL run)), some (.frz, .non), some (.own, .lst []), none, none])
    (Q := fun o => o = .rt (.own, .lst (optL (hist kind body ps run 0))) ∨ ∃ e : Env, o = .nx e ∧ e[3]? = some (some (.own, .lst (optL (hist kind body ps run 0)))))
    (P := fun i e => ∃ (since : Option Int) (l : Int) (told : List (Option Int)), told.length = i ∧ At kind ps i since l ∧ told ++ hist kind body ps (run.drop i) l = hist kind body ps run 0 ∧ e = [some (.frz, rD kind body ps), some (.frz, .tup (intL run)), some (.frz, optD since), some (.own, .lst (optL told)), none, none])
    (fun i d e hi hP => by
      obtain ⟨since, l, told, ht, a, hh, rfl⟩ := hP
      obtain ⟨hi2, rfl⟩ := rngL_get hi
      have hr : run[i]? = some run[i] := List.getElem?_eq_getElem hi2
      have hw' := hw _ (List.mem_of_getElem? hr)
      rw [List.drop_eq_getElem_cons hi2] at hh
      simp only [hist] at hh
      have b := hist_body (body := body) (told := told) r hw' hr (by omega) a
      have st := (at_step (body := body) (w := run[i]) r a).2.2
      refine ⟨_, r_bT, ?_⟩
      rw [r_sS, Int.zero_add]
      rcases b with ⟨h1, h2⟩ | ⟨l', h1, h2⟩
      · rw [h1] at hh
        refine .inr (.inl ⟨_, h2, .inl ?_⟩)
        rw [← hh]
      · rw [h1] at hh
        refine .inl ⟨_, .inl h2, _, l', told ++ [some l'], by simp [ht], st l' h1, ?_, by simp⟩
        rw [← hh]
        simp)
    (fun e hP => by
      obtain ⟨since, l, told, ht, a, hh, rfl⟩ := hP
      rw [rngL_len] at hh
      rw [List.drop_eq_nil_of_le (Nat.le_refl _)] at hh
      simp only [hist, List.append_nil] at hh
      exact .inr ⟨_, rfl, by rw [← hh]; rfl⟩)
    ⟨none, 0, [], rfl, .inl ⟨rfl, rfl⟩, rfl, rfl⟩
  have h0 : (0 ≤ sizeL) = True := szn (by simp)
  have hz2 := szn (n := run.length) (by omega)
  have hl : (intL run).length = run.length := by simp [intL]
  have l62 : lim62 (run.length : Int) = true := lim62_t (by omega) (by omega)
  rcases loop with h | ⟨e, h, he⟩
  · simp at h
    simp [b__law_history, h0, hl, hz2, l62, h]
  · simp at h
    simp [b__law_history, h0, hl, hz2, l62, h, he]
end Law

namespace Law
open Fx
theorem same4 {d : D} (h : sm d = true) (hd : d.dep < 6) : _law_same [(.frz, d), (.frz, d)] = .ok (.frz, .bl true) := same_refl 6 d h hd
theorem opt_sm (m : Option Int) : sm (optD m) = true ∧ (optD m).dep < 6 := by cases m <;> exact ⟨rfl, by show 0 < 6; decide⟩
end Law

namespace Law
open Fx
theorem worlds_eq {p : Int} : _law_worlds [(.frz, .int p)] = .ok (.own, .lst (((List.range 16).filter fun k : Nat => bit p k).map fun k : Nat => D.int k)) := by
  unfold _law_worlds
  rw [runDef_eq (by rfl)]
  have q := lc_gen (bindf := fun d => bindT (.nm 1) d (wipeE [some (.frz, .int p), none] [1])) (test := fun e => noEx (evalIfs [(.cmp .eq (.bin .and (.bin .shr (.var 0) (.var 1)) (.cint 1)) (.cint 1))] e)) (elt := fun e => noEx ((eval (.var 1) e).bind fun v => esc v))
    (fun k : Nat => D.int (k : Int)) (fun k : Nat => bit p k) (fun k : Nat => D.int k) (List.range 16) fun k hk => by
      refine ⟨_, r_bT, ?_, fun _ => by simp⟩
      simp [binI_shr (i := p) (Int.natCast_nonneg k), bit]
  have hz : ((((List.range 16).filter fun k : Nat => bit p k).map fun k : Nat => D.int k).length ≤ sizeL) = True := szn (by
    rw [List.length_map]
    have g1 := List.length_filter_le (fun k : Nat => bit p k) (List.range 16)
    rw [List.length_range] at g1
    omega)
  have l62 : lim62 16 = true := lim62_t (by decide) (by decide)
  rw [← rng0] at q
  simp at q hz
  simp [b__law_worlds, l62, q, hz]
theorem run_ok {ns : List Int} {a c : Nat} {can n : Int} (h : ns.length ≤ 63) (ha : a ≤ 1000) (hc : c ≤ 1000) (hne : 0 < ((List.range 16).filter fun k : Nat => bit can k).length) :
    ∃ run : List Int, run.length = c ∧ (∀ w ∈ run, 0 ≤ w) ∧ _law_run [(.frz, .scr ns), (.frz, .int a), (.frz, .int n), (.frz, .int c), (.frz, .int can)] = .ok (.frz, .tup (intL run)) := by
  obtain ⟨xs, hx, hb, hq⟩ := numbers_eq (r := 5040) h ha hc (by decide) (by decide)
  have wq := worlds_eq (p := can)
  generalize hW : (List.range 16).filter (fun k : Nat => bit can k) = ws at *
  have hl : (ws.map fun k : Nat => D.int k).length = ws.length := by simp
  have hw16 : ws.length ≤ 16 := by
    rw [← hW]
    have g1 := List.length_filter_le (fun k : Nat => bit can k) (List.range 16)
    rw [List.length_range] at g1
    exact g1
  have hz := szn (n := ws.length) (by omega)
  have hmod : ∀ x : Int, binI .mod x (ws.length : Int) = .ok (x % ws.length) := fun x => binI_mod (by omega)
  have q := lc_all (bindf := fun d => bindT (.nm 6) d (wipeE [some (.frz, .scr ns), some (.frz, .int a), some (.frz, .int n), some (.frz, .int c), some (.frz, .int can), some (.frz, .lst (ws.map fun k : Nat => D.int k)), none] [6])) (test := fun e => noEx (evalIfs [] e)) (elt := fun e => noEx ((eval (.ix (.var 5) (.bin .mod (.var 6) (.bi .len [(.var 5)]))) e).bind fun v => esc v))
    D.int (fun x : Int => D.int ((ws[(x % ws.length).toNat]?.getD 0 : Nat) : Int)) xs fun x hxm => by
      have h0 := (hb x hxm).1
      have m0 := Int.emod_nonneg x (b := (ws.length : Int)) (by omega)
      have m1 := Int.emod_lt_of_pos x (b := (ws.length : Int)) (by omega)
      obtain ⟨i, hi⟩ : ∃ i : Nat, x % (ws.length : Int) = i := ⟨(x % ws.length).toNat, by omega⟩
      have hil : i < ws.length := by omega
      have e : ws[i]? = some ws[i] := List.getElem?_eq_getElem hil
      refine ⟨_, r_bT, by rw [r_if0]; rfl, ?_⟩
      simp [hz, hmod, hi, atIx_nat, e]
  refine ⟨xs.map fun x : Int => ((ws[(x % ws.length).toNat]?.getD 0 : Nat) : Int), by simp [hx], fun w hw => ?_, ?_⟩
  · obtain ⟨x, _, rfl⟩ := List.mem_map.mp hw
    exact Int.natCast_nonneg _
  · unfold _law_run
    rw [runDef_eq (by rfl)]
    have hzx := szn (n := xs.length) (by omega)
    have e : intL xs = xs.map D.int := rfl
    rw [e] at hq
    simp at q
    simp [b__law_run, wq, hq, q, hzx, intL]
end Law

namespace Law
open Fx
theorem r_slL {xs : List D} {lo hi : Option Int} : sliceOp (.lst xs) lo hi = .ok (.own, .lst (cutL xs lo hi)) := rfl
theorem cut_mid {xs : List Int} {a m : Nat} (h : a + m ≤ xs.length) : cutL (intL xs) (some (a : Int)) (some ((a : Int) + m)) = intL ((xs.drop a).take m) := by
  have e1 : clip xs.length 0 (some (a : Int)) = a := by
    unfold clip
    simp only
    rw [if_pos (Int.natCast_nonneg a), Int.toNat_natCast]
    omega
  have e2 : clip xs.length xs.length (some ((a : Int) + m)) = a + m := by
    unfold clip
    simp only
    rw [if_pos (by omega)]
    omega
  unfold cutL
  rw [show (intL xs).length = xs.length by simp [intL], e1, e2]
  show List.take (a + m - a) (List.drop a (intL xs)) = _
  rw [show a + m - a = m by omega]
  simp [intL, List.map_drop, List.map_take]
theorem cut_to {xs : List D} {m : Nat} (h : m ≤ xs.length) : cutL xs none (some (m : Int)) = xs.take m := by
  have e2 : clip xs.length xs.length (some (m : Int)) = m := by
    unfold clip
    simp only
    rw [if_pos (by omega)]
    omega
  unfold cutL
  rw [e2]
  simp [clip]
/-- a rule that is right -/
structure Good (n : Nat) (q : PySem.Str × Int × List (Int × Int)) : Prop where
  rt : Rt q.1 q.2.2
  cm : (D.str q.1).cmpOk = true
  ok : bad n q.1 q.2.1 q.2.2 = none
  six : q.1 ≠ till → ∀ p ∈ q.2.2, p.2 ≤ 6
theorem good_of {n : Nat} {kind : PySem.Str} {body : Int} {ps : List (Int × Int)} (h1 : 1 ≤ n) (h4 : n ≤ 4) (hk : kind = soon ∨ kind = again ∨ kind = till) (hb : 0 ≤ body ∧ body < tp n) (hl : 1 ≤ ps.length ∧ ps.length ≤ 3) (ho : kind ≠ soon → ps.length = 1)
    (hp : ∀ p ∈ ps, (0 ≤ p.1 ∧ p.1 < tp n) ∧ (kind = till → 0 ≤ p.2 ∧ p.2 < tp n) ∧ (kind ≠ till → 0 ≤ p.2 ∧ p.2 ≤ 6)) : Good n (kind, body, ps) := by
  refine ⟨⟨fun e => by have e : ps = [] := e; rw [e] at hl; simp at hl, hl.2, fun h => ?_, hk, fun h p hm => ((hp p hm).2.2 h).1⟩, ?_, ?_, fun h p hm => ((hp p hm).2.2 h).2⟩
  · have := ho h
    match ps, this with
    | [p], _ => exact ⟨p, rfl⟩
  · show (D.str kind).cmpOk = true
    rcases hk with rfl | rfl | rfl <;> decide +kernel
  · show bad n kind body ps = none
    unfold bad
    rw [if_neg (by simp; omega)]
    have k1 : okK kind = true := by rcases hk with rfl | rfl | rfl <;> decide +kernel
    rw [if_neg (by rw [k1]; simp)]
    have k2 : (1 ≤ ps.length ∧ ps.length ≤ if kind == soon then 3 else 1) := by
      refine ⟨hl.1, ?_⟩
      by_cases hs : kind = soon
      · rw [if_pos (by rw [hs]; simp)]; exact hl.2
      · rw [if_neg (by simpa using hs), ho hs]
        exact Nat.le_refl _
    rw [if_neg (fun z => z k2)]
    have k3 : okP n body = true := by unfold okP; simp [hb.1, hb.2]
    rw [if_neg (by rw [k3]; simp)]
    have k4 : ps.findIdx? (fun p => !okPart n kind p) = none := by
      rw [List.findIdx?_eq_none_iff]
      intro p hm
      obtain ⟨a1, a2, a3⟩ := hp p hm
      by_cases ht : kind = till
      · have b := a2 ht
        simp [okPart, okP, a1.1, a1.2, ht, b.1, b.2]
      · have b := a3 ht
        simp [okPart, okP, a1.1, a1.2, ht, b.1, b.2]
    rw [k4]
end Law

namespace Law
open Fx
def qD (q : PySem.Str × Int × List (Int × Int)) : D := rD q.1 q.2.1 q.2.2
theorem list8 {xs : List Int} (h : xs.length = 8) : ∃ a b c d e f g k, xs = [a, b, c, d, e, f, g, k] := by
  match xs, h with
  | [a, b, c, d, e, f, g, k], _ => exact ⟨a, b, c, d, e, f, g, k, rfl⟩
theorem list6 {xs : List Int} (h : xs.length = 6) : ∃ a b c d e f, xs = [a, b, c, d, e, f] := by
  match xs, h with
  | [a, b, c, d, e, f], _ => exact ⟨a, b, c, d, e, f, rfl⟩
theorem lng_ns {kind : PySem.Str} {ps : List (Int × Int)} (h : kind ≠ till) : lng kind ps = tot ps := by unfold lng tot; rw [if_neg h]
theorem lng_till (ps : List (Int × Int)) : lng till ps = 1 := by unfold lng; rw [if_pos rfl]
theorem timed_step {n k c : Nat} {ns xs ys : List Int} {at_ N P T B : Int} (hP : 1 ≤ P ∧ P ≤ 3) (hT : 0 ≤ T ∧ T ≤ 6) (hB1 : T + 1 ≤ B) (hB2 : 2 ≤ P → 2 * (T + 1) ≤ B) (hB3 : 3 ≤ P → 3 * (T + 1) ≤ B) {rs : List (PySem.Str × Int × List (Int × Int))} (h1 : 1 ≤ n) (h4 : n ≤ 4) (hk : k < c) (hx : xs.length = 8 * c) (hy : ys.length = 6 * c) (bx : ∀ x ∈ xs, 0 ≤ x) (by_ : ∀ y ∈ ys, 0 ≤ y ∧ y < tp n) (hr : rs.length ≤ 10) :
    ∃ q x10 x11 x12 x13 x14 x15, (Good n q ∧ lng q.1 q.2.2 ≤ B) ∧ execs lp__law_timed_2 [some (.frz, .scr ns), some (.frz, .int at_), some (.frz, .int n), some (.frz, .int N), some (.frz, .int P), some (.frz, .int T), some (.frz, .lst (intL xs)), some (.frz, .lst (intL ys)), some (.own, .lst (rs.map qD)), some (.frz, .int k), none, none, none, none, none, none] =
      .nx [some (.frz, .scr ns), some (.frz, .int at_), some (.frz, .int n), some (.frz, .int N), some (.frz, .int P), some (.frz, .int T), some (.frz, .lst (intL xs)), some (.frz, .lst (intL ys)), some (.own, .lst ((rs ++ [q]).map qD)), some (.frz, .int k), x10, x11, x12, x13, x14, x15] := by
  have c1 := cut_mid (xs := xs) (a := 8 * k) (m := 8) (by omega)
  have c2 := cut_mid (xs := ys) (a := 6 * k) (m := 6) (by omega)
  obtain ⟨r0, r1, r2, r3, r4, r5, r6, r7, hrow⟩ := list8 (xs := (xs.drop (8 * k)).take 8) (by rw [List.length_take, List.length_drop]; omega)
  obtain ⟨d0, d1, d2, d3, d4, d5, hdr⟩ := list6 (xs := (ys.drop (6 * k)).take 6) (by rw [List.length_take, List.length_drop]; omega)
  have br : ∀ x ∈ [r0, r1, r2, r3, r4, r5, r6, r7], 0 ≤ x := fun x hm => bx x (List.mem_of_mem_drop (List.mem_of_mem_take (by rw [hrow]; exact hm)))
  have bd : ∀ x ∈ [d0, d1, d2, d3, d4, d5], 0 ≤ x ∧ x < tp n := fun x hm => by_ x (List.mem_of_mem_drop (List.mem_of_mem_take (by rw [hdr]; exact hm)))
  rw [hrow] at c1
  rw [hdr] at c2
  simp at br bd
  obtain ⟨b0, b1, b2, b3, b4, b5, b6, b7⟩ := br
  obtain ⟨e0, e1, e2, e3, e4, e5⟩ := bd
  have m8 : binI .mul 8 (k : Int) = .ok (8 * k) := binI_mul (.inl (lim64_t (by decide) (by decide)))
  have m6 : binI .mul 6 (k : Int) = .ok (6 * k) := binI_mul (.inl (lim64_t (by decide) (by decide)))
  obtain ⟨p0, q0, a0⟩ := prop_ok (number := r2) h1 h4 b2 e0 e3
  obtain ⟨p1, q1, a1⟩ := prop_ok (number := r3) h1 h4 b3 e1 e4
  obtain ⟨p2, q2, a2⟩ := prop_ok (number := r4) h1 h4 b4 e2 e5
  obtain ⟨p3, q3, a3⟩ := prop_ok (number := r1) h1 h4 b1 e2 e4
  obtain ⟨p4, q4, a4⟩ := prop_ok (number := r7) h1 h4 b7 e1 e2
  have t5 : binI .mod r5 (T + 1) = .ok (r5 % (T + 1)) := binI_mod (by omega)
  have t6 : binI .mod r6 (T + 1) = .ok (r6 % (T + 1)) := binI_mod (by omega)
  have t7 : binI .mod r7 (T + 1) = .ok (r7 % (T + 1)) := binI_mod (by omega)
  have u1 : binI .mod r0 4 = .ok (r0 % 4) := binI_mod (by decide)
  have u2 : binI .fdiv r0 4 = .ok (r0 / 4) := binI_fdiv (by decide) (by decide)
  have u3 : binI .mod (r0 / 4) P = .ok (r0 / 4 % P) := binI_mod (by omega)
  have z2 := szn (n := 2) (by decide)
  have z3 := szn (n := 3) (by decide)
  have z4 := szn (n := 4) (by decide)
  have zr := szl (n := rs.length) (by omega)
  have zl0 := szl (n := 0) (by decide)
  have zl1 := szl (n := 1) (by decide)
  have zl2 := szl (n := 2) (by decide)
  have l3 : lim62 3 = true := lim62_t (by decide) (by decide)
  have rg : rngL 0 3 = [.int 0, .int 1, .int 2] := rfl
  have w5 := Int.emod_nonneg r5 (b := T + 1) (by omega)
  have v5 := Int.emod_lt_of_pos r5 (b := T + 1) (by omega)
  have f5 : r5 % (T + 1) ≤ 6 := by omega
  have w6 := Int.emod_nonneg r6 (b := T + 1) (by omega)
  have v6 := Int.emod_lt_of_pos r6 (b := T + 1) (by omega)
  have f6 : r6 % (T + 1) ≤ 6 := by omega
  have w7 := Int.emod_nonneg r7 (b := T + 1) (by omega)
  have v7 := Int.emod_lt_of_pos r7 (b := T + 1) (by omega)
  have f7 : r7 % (T + 1) ≤ 6 := by omega
  push_cast at c1 c2
  have c1 : cutL (intL xs) (some (8 * (k : Int))) (some (8 * (k : Int) + 8)) = [D.int r0, .int r1, .int r2, .int r3, .int r4, .int r5, .int r6, .int r7] := c1
  have c2 : cutL (intL ys) (some (6 * (k : Int))) (some (6 * (k : Int) + 6)) = [D.int d0, .int d1, .int d2, .int d3, .int d4, .int d5] := c2
  have front : execs lp__law_timed_2 [some (.frz, .scr ns), some (.frz, .int at_), some (.frz, .int n), some (.frz, .int N), some (.frz, .int P), some (.frz, .int T), some (.frz, .lst (intL xs)), some (.frz, .lst (intL ys)), some (.own, .lst (rs.map qD)), some (.frz, .int k), none, none, none, none, none, none] =
      execs (lp__law_timed_2.drop 4) [some (.frz, .scr ns), some (.frz, .int at_), some (.frz, .int n), some (.frz, .int N), some (.frz, .int P), some (.frz, .int T), some (.frz, .lst (intL xs)), some (.frz, .lst (intL ys)), some (.own, .lst (rs.map qD)), some (.frz, .int k), some (.frz, .lst [.int r0, .int r1, .int r2, .int r3, .int r4, .int r5, .int r6, .int r7]), some (.frz, .lst [.int d0, .int d1, .int d2, .int d3, .int d4, .int d5]), some (.own, .lst [.tup [.int p0, .int (r5 % (T + 1))], .tup [.int p1, .int (r6 % (T + 1))], .tup [.int p2, .int (r7 % (T + 1))]]), none, none, none] := by
    simp [lp__law_timed_2, m8, m6, r_slL, c1, c2, l3, rg, forLoop, lp__law_timed_1, ownL_eq, atIx, a0, a1, a2, t5, t6, t7, z2, zl0, zl1, zl2]
  rw [front]
  have mk : ∀ kind ps, (Good n (kind, p3, ps) ∧ lng kind ps ≤ B) → (∃ x10 x11 x12 x13 x14 x15, execs (lp__law_timed_2.drop 4) [some (.frz, .scr ns), some (.frz, .int at_), some (.frz, .int n), some (.frz, .int N), some (.frz, .int P), some (.frz, .int T), some (.frz, .lst (intL xs)), some (.frz, .lst (intL ys)), some (.own, .lst (rs.map qD)), some (.frz, .int k), some (.frz, .lst [.int r0, .int r1, .int r2, .int r3, .int r4, .int r5, .int r6, .int r7]), some (.frz, .lst [.int d0, .int d1, .int d2, .int d3, .int d4, .int d5]), some (.own, .lst [.tup [.int p0, .int (r5 % (T + 1))], .tup [.int p1, .int (r6 % (T + 1))], .tup [.int p2, .int (r7 % (T + 1))]]), none, none, none] =
      .nx [some (.frz, .scr ns), some (.frz, .int at_), some (.frz, .int n), some (.frz, .int N), some (.frz, .int P), some (.frz, .int T), some (.frz, .lst (intL xs)), some (.frz, .lst (intL ys)), some (.own, .lst (rs.map qD ++ [qD (kind, p3, ps)])), some (.frz, .int k), x10, x11, x12, x13, x14, x15]) → ∃ q x10 x11 x12 x13 x14 x15, (Good n q ∧ lng q.1 q.2.2 ≤ B) ∧ execs (lp__law_timed_2.drop 4) [some (.frz, .scr ns), some (.frz, .int at_), some (.frz, .int n), some (.frz, .int N), some (.frz, .int P), some (.frz, .int T), some (.frz, .lst (intL xs)), some (.frz, .lst (intL ys)), some (.own, .lst (rs.map qD)), some (.frz, .int k), some (.frz, .lst [.int r0, .int r1, .int r2, .int r3, .int r4, .int r5, .int r6, .int r7]), some (.frz, .lst [.int d0, .int d1, .int d2, .int d3, .int d4, .int d5]), some (.own, .lst [.tup [.int p0, .int (r5 % (T + 1))], .tup [.int p1, .int (r6 % (T + 1))], .tup [.int p2, .int (r7 % (T + 1))]]), none, none, none] =
      .nx [some (.frz, .scr ns), some (.frz, .int at_), some (.frz, .int n), some (.frz, .int N), some (.frz, .int P), some (.frz, .int T), some (.frz, .lst (intL xs)), some (.frz, .lst (intL ys)), some (.own, .lst ((rs ++ [q]).map qD)), some (.frz, .int k), x10, x11, x12, x13, x14, x15] := by
    intro kind ps g ⟨x10, x11, x12, x13, x14, x15, h⟩
    exact ⟨(kind, p3, ps), x10, x11, x12, x13, x14, x15, g, by rw [h]; simp⟩
  have k4 := Int.emod_nonneg r0 (b := 4) (by decide)
  have k5 := Int.emod_lt_of_pos r0 (b := 4) (by decide)
  have i1 := Int.emod_nonneg (r0 / 4) (b := P) (by omega)
  have i2 := Int.emod_lt_of_pos (r0 / 4) (b := P) (by omega)
  have cut1 : ∀ a b c : D, cutL [a, b, c] none (some 1) = [a] := fun a b c => rfl
  have cut2 : ∀ a b c : D, cutL [a, b, c] none (some 2) = [a, b] := fun a b c => rfl
  have cut3 : ∀ a b c : D, cutL [a, b, c] none (some 3) = [a, b, c] := fun a b c => rfl
  have s1 : (("soon" : PySem.Str) = "till") = False := by simp; decide
  have s2 : (("again" : PySem.Str) = "soon") = False := by simp; decide
  have s3 : (("again" : PySem.Str) = "till") = False := by simp; decide
  have s4 : (("till" : PySem.Str) = "soon") = False := by simp; decide
  rcases (show r0 % 4 = 0 ∨ r0 % 4 = 1 ∨ r0 % 4 = 2 ∨ r0 % 4 = 3 by omega) with h | h | h | h
  · rw [h] at u1
    rcases (show r0 / 4 % P = 0 ∨ r0 / 4 % P = 1 ∨ r0 / 4 % P = 2 by omega) with c | c | c
    · rw [c] at u3
      refine mk soon [(p0, r5 % (T + 1))] ⟨good_of h1 h4 (.inl rfl) q3 (by simp) (fun z => absurd rfl z) fun p hm => ?_, by rw [lng_ns (by decide)]; simp [tot]; omega⟩ ⟨some (.frz, .lst [.int r0, .int r1, .int r2, .int r3, .int r4, .int r5, .int r6, .int r7]), some (.frz, .lst [.int d0, .int d1, .int d2, .int d3, .int d4, .int d5]), some (.own, .lst [.tup [.int p0, .int (r5 % (T + 1))], .tup [.int p1, .int (r6 % (T + 1))], .tup [.int p2, .int (r7 % (T + 1))]]), none, some (.frz, .str soon), some (.frz, .lst (psD [(p0, r5 % (T + 1))])), by simp [lp__law_timed_2, ownL_eq, atIx, a3, a4, u1, u2, u3, z2, z3, z4, szn (n := 1) (by decide), zr, r_slL, cut1, cut2, cut3, s1, s2, s3, s4, qD, rD, psD, pD, soon, again, till]⟩
      simp at hm
      rcases hm with rfl
      · exact ⟨q0, fun z => absurd z (by decide), fun _ => ⟨by simpa using w5, by simpa using f5⟩⟩
    · rw [c] at u3
      refine mk soon [(p0, r5 % (T + 1)), (p1, r6 % (T + 1))] ⟨good_of h1 h4 (.inl rfl) q3 (by simp) (fun z => absurd rfl z) fun p hm => ?_, by rw [lng_ns (by decide)]; simp [tot]; omega⟩ ⟨some (.frz, .lst [.int r0, .int r1, .int r2, .int r3, .int r4, .int r5, .int r6, .int r7]), some (.frz, .lst [.int d0, .int d1, .int d2, .int d3, .int d4, .int d5]), some (.own, .lst [.tup [.int p0, .int (r5 % (T + 1))], .tup [.int p1, .int (r6 % (T + 1))], .tup [.int p2, .int (r7 % (T + 1))]]), none, some (.frz, .str soon), some (.frz, .lst (psD [(p0, r5 % (T + 1)), (p1, r6 % (T + 1))])), by simp [lp__law_timed_2, ownL_eq, atIx, a3, a4, u1, u2, u3, z2, z3, z4, szn (n := 1) (by decide), zr, r_slL, cut1, cut2, cut3, s1, s2, s3, s4, qD, rD, psD, pD, soon, again, till]⟩
      simp at hm
      rcases hm with rfl | rfl
      · exact ⟨q0, fun z => absurd z (by decide), fun _ => ⟨by simpa using w5, by simpa using f5⟩⟩
      · exact ⟨q1, fun z => absurd z (by decide), fun _ => ⟨by simpa using w6, by simpa using f6⟩⟩
    · rw [c] at u3
      refine mk soon [(p0, r5 % (T + 1)), (p1, r6 % (T + 1)), (p2, r7 % (T + 1))] ⟨good_of h1 h4 (.inl rfl) q3 (by simp) (fun z => absurd rfl z) fun p hm => ?_, by rw [lng_ns (by decide)]; simp [tot]; omega⟩ ⟨some (.frz, .lst [.int r0, .int r1, .int r2, .int r3, .int r4, .int r5, .int r6, .int r7]), some (.frz, .lst [.int d0, .int d1, .int d2, .int d3, .int d4, .int d5]), some (.own, .lst [.tup [.int p0, .int (r5 % (T + 1))], .tup [.int p1, .int (r6 % (T + 1))], .tup [.int p2, .int (r7 % (T + 1))]]), none, some (.frz, .str soon), some (.frz, .lst (psD [(p0, r5 % (T + 1)), (p1, r6 % (T + 1)), (p2, r7 % (T + 1))])), by simp [lp__law_timed_2, ownL_eq, atIx, a3, a4, u1, u2, u3, z2, z3, z4, szn (n := 1) (by decide), zr, r_slL, cut1, cut2, cut3, s1, s2, s3, s4, qD, rD, psD, pD, soon, again, till]⟩
      simp at hm
      rcases hm with rfl | rfl | rfl
      · exact ⟨q0, fun z => absurd z (by decide), fun _ => ⟨by simpa using w5, by simpa using f5⟩⟩
      · exact ⟨q1, fun z => absurd z (by decide), fun _ => ⟨by simpa using w6, by simpa using f6⟩⟩
      · exact ⟨q2, fun z => absurd z (by decide), fun _ => ⟨by simpa using w7, by simpa using f7⟩⟩
  · rw [h] at u1
    refine mk again [(p0, r5 % (T + 1))] ⟨good_of h1 h4 (.inr (.inl rfl)) q3 (by simp) (fun _ => rfl) fun p hm => ?_, by rw [lng_ns (by decide)]; simp [tot]; omega⟩ ⟨some (.frz, .lst [.int r0, .int r1, .int r2, .int r3, .int r4, .int r5, .int r6, .int r7]), some (.frz, .lst [.int d0, .int d1, .int d2, .int d3, .int d4, .int d5]), some (.own, .lst [.tup [.int p0, .int (r5 % (T + 1))], .tup [.int p1, .int (r6 % (T + 1))], .tup [.int p2, .int (r7 % (T + 1))]]), none, some (.frz, .str again), some (.frz, .lst (psD [(p0, r5 % (T + 1))])), by simp [lp__law_timed_2, ownL_eq, atIx, a3, a4, u1, u2, u3, z2, z3, z4, szn (n := 1) (by decide), zr, r_slL, cut1, cut2, cut3, s1, s2, s3, s4, qD, rD, psD, pD, soon, again, till]⟩
    simp at hm
    subst hm
    exact ⟨q0, fun z => absurd z (by decide), fun _ => ⟨w5, f5⟩⟩
  · rw [h] at u1
    refine mk till [(p0, p4)] ⟨good_of h1 h4 (.inr (.inr rfl)) q3 (by simp) (fun _ => rfl) fun p hm => ?_, by rw [lng_till]; omega⟩ ⟨some (.frz, .lst [.int r0, .int r1, .int r2, .int r3, .int r4, .int r5, .int r6, .int r7]), some (.frz, .lst [.int d0, .int d1, .int d2, .int d3, .int d4, .int d5]), some (.own, .lst [.tup [.int p0, .int (r5 % (T + 1))], .tup [.int p1, .int (r6 % (T + 1))], .tup [.int p2, .int (r7 % (T + 1))]]), none, some (.frz, .str till), some (.frz, .lst (psD [(p0, p4)])), by simp [lp__law_timed_2, ownL_eq, atIx, a3, a4, u1, u2, u3, z2, z3, z4, szn (n := 1) (by decide), zr, r_slL, cut1, cut2, cut3, s1, s2, s3, s4, qD, rD, psD, pD, soon, again, till]⟩
    simp at hm
    subst hm
    exact ⟨q0, fun _ => q4, fun z => absurd rfl z⟩
  · rw [h] at u1
    rcases (show r0 / 4 % P = 0 ∨ r0 / 4 % P = 1 ∨ r0 / 4 % P = 2 by omega) with c | c | c
    · rw [c] at u3
      refine mk soon [(p0, r5 % (T + 1))] ⟨good_of h1 h4 (.inl rfl) q3 (by simp) (fun z => absurd rfl z) fun p hm => ?_, by rw [lng_ns (by decide)]; simp [tot]; omega⟩ ⟨some (.frz, .lst [.int r0, .int r1, .int r2, .int r3, .int r4, .int r5, .int r6, .int r7]), some (.frz, .lst [.int d0, .int d1, .int d2, .int d3, .int d4, .int d5]), some (.own, .lst [.tup [.int p0, .int (r5 % (T + 1))], .tup [.int p1, .int (r6 % (T + 1))], .tup [.int p2, .int (r7 % (T + 1))]]), none, some (.frz, .str soon), some (.frz, .lst (psD [(p0, r5 % (T + 1))])), by simp [lp__law_timed_2, ownL_eq, atIx, a3, a4, u1, u2, u3, z2, z3, z4, szn (n := 1) (by decide), zr, r_slL, cut1, cut2, cut3, s1, s2, s3, s4, qD, rD, psD, pD, soon, again, till]⟩
      simp at hm
      rcases hm with rfl
      · exact ⟨q0, fun z => absurd z (by decide), fun _ => ⟨by simpa using w5, by simpa using f5⟩⟩
    · rw [c] at u3
      refine mk soon [(p0, r5 % (T + 1)), (p1, r6 % (T + 1))] ⟨good_of h1 h4 (.inl rfl) q3 (by simp) (fun z => absurd rfl z) fun p hm => ?_, by rw [lng_ns (by decide)]; simp [tot]; omega⟩ ⟨some (.frz, .lst [.int r0, .int r1, .int r2, .int r3, .int r4, .int r5, .int r6, .int r7]), some (.frz, .lst [.int d0, .int d1, .int d2, .int d3, .int d4, .int d5]), some (.own, .lst [.tup [.int p0, .int (r5 % (T + 1))], .tup [.int p1, .int (r6 % (T + 1))], .tup [.int p2, .int (r7 % (T + 1))]]), none, some (.frz, .str soon), some (.frz, .lst (psD [(p0, r5 % (T + 1)), (p1, r6 % (T + 1))])), by simp [lp__law_timed_2, ownL_eq, atIx, a3, a4, u1, u2, u3, z2, z3, z4, szn (n := 1) (by decide), zr, r_slL, cut1, cut2, cut3, s1, s2, s3, s4, qD, rD, psD, pD, soon, again, till]⟩
      simp at hm
      rcases hm with rfl | rfl
      · exact ⟨q0, fun z => absurd z (by decide), fun _ => ⟨by simpa using w5, by simpa using f5⟩⟩
      · exact ⟨q1, fun z => absurd z (by decide), fun _ => ⟨by simpa using w6, by simpa using f6⟩⟩
    · rw [c] at u3
      refine mk soon [(p0, r5 % (T + 1)), (p1, r6 % (T + 1)), (p2, r7 % (T + 1))] ⟨good_of h1 h4 (.inl rfl) q3 (by simp) (fun z => absurd rfl z) fun p hm => ?_, by rw [lng_ns (by decide)]; simp [tot]; omega⟩ ⟨some (.frz, .lst [.int r0, .int r1, .int r2, .int r3, .int r4, .int r5, .int r6, .int r7]), some (.frz, .lst [.int d0, .int d1, .int d2, .int d3, .int d4, .int d5]), some (.own, .lst [.tup [.int p0, .int (r5 % (T + 1))], .tup [.int p1, .int (r6 % (T + 1))], .tup [.int p2, .int (r7 % (T + 1))]]), none, some (.frz, .str soon), some (.frz, .lst (psD [(p0, r5 % (T + 1)), (p1, r6 % (T + 1)), (p2, r7 % (T + 1))])), by simp [lp__law_timed_2, ownL_eq, atIx, a3, a4, u1, u2, u3, z2, z3, z4, szn (n := 1) (by decide), zr, r_slL, cut1, cut2, cut3, s1, s2, s3, s4, qD, rD, psD, pD, soon, again, till]⟩
      simp at hm
      rcases hm with rfl | rfl | rfl
      · exact ⟨q0, fun z => absurd z (by decide), fun _ => ⟨by simpa using w5, by simpa using f5⟩⟩
      · exact ⟨q1, fun z => absurd z (by decide), fun _ => ⟨by simpa using w6, by simpa using f6⟩⟩
      · exact ⟨q2, fun z => absurd z (by decide), fun _ => ⟨by simpa using w7, by simpa using f7⟩⟩
end Law

namespace Law
open Fx
theorem tp_lt {n : Nat} (h4 : n ≤ 5) : tp n < 18446744073709551616 := by
  rcases (show n = 0 ∨ n = 1 ∨ n = 2 ∨ n = 3 ∨ n = 4 ∨ n = 5 by omega) with rfl | rfl | rfl | rfl | rfl | rfl <;> decide
/-- the drawn rules -/
theorem timed_ok {ns : List Int} {n a c p : Nat} {T B : Int} (hP : 1 ≤ p ∧ p ≤ 3) (hT : 0 ≤ T ∧ T ≤ 6) (hB1 : T + 1 ≤ B) (hB2 : 2 ≤ p → 2 * (T + 1) ≤ B) (hB3 : 3 ≤ p → 3 * (T + 1) ≤ B) (h : ns.length ≤ 63) (h1 : 1 ≤ n) (h4 : n ≤ 4) (hc : c ≤ 10) (ha : a ≤ 100) :
    ∃ rs : List (PySem.Str × Int × List (Int × Int)), rs.length = c ∧ (∀ q ∈ rs, Good n q ∧ lng q.1 q.2.2 ≤ B) ∧ _law_timed [(.frz, .scr ns), (.frz, .int a), (.frz, .int n), (.frz, .int c), (.frz, .int p), (.frz, .int T)] = .ok (.own, .lst (rs.map qD)) := by
  obtain ⟨xs, hx, bx, ex⟩ := numbers_eq (a := a) (c := 8 * c) (r := 840) h (by omega) (by omega) (by decide) (by decide)
  obtain ⟨ys, hy, by_, ey⟩ := numbers_eq (a := a + 1) (c := 6 * c) (r := tp n) h (by omega) (by omega) (tp_pos n) (tp_lt (by omega))
  have loop := for_ind (bindf := fun d env => bindT (.nm 9) d env) (body := fun env => execs lp__law_timed_2 env) (fg := [9, 10, 11, 12, 13, 14, 15]) (items := rngL 0 c)
    (env := [some (.frz, .scr ns), some (.frz, .int a), some (.frz, .int n), some (.frz, .int c), some (.frz, .int p), some (.frz, .int T), some (.frz, .lst (intL xs)), some (.frz, .lst (intL ys)), some (.own, .lst []), none, none, none, none, none, none, none])
    (Q := fun o => ∃ rs : List (PySem.Str × Int × List (Int × Int)), rs.length = c ∧ (∀ q ∈ rs, Good n q ∧ lng q.1 q.2.2 ≤ B) ∧ ∃ e : Env, o = .nx e ∧ e[8]? = some (some (.own, .lst (rs.map qD))))
    (P := fun i e => ∃ rs : List (PySem.Str × Int × List (Int × Int)), rs.length = i ∧ (∀ q ∈ rs, Good n q ∧ lng q.1 q.2.2 ≤ B) ∧ e = [some (.frz, .scr ns), some (.frz, .int a), some (.frz, .int n), some (.frz, .int c), some (.frz, .int p), some (.frz, .int T), some (.frz, .lst (intL xs)), some (.frz, .lst (intL ys)), some (.own, .lst (rs.map qD)), none, none, none, none, none, none, none])
    (fun i d e hi hP' => by
      obtain ⟨rs, hl, hg, rfl⟩ := hP'
      obtain ⟨hi2, rfl⟩ := rngL_get hi
      obtain ⟨q, x10, x11, x12, x13, x14, x15, g, st⟩ := timed_step (ns := ns) (xs := xs) (ys := ys) (at_ := a) (rs := rs) (N := c) (P := p) (T := T) (B := B) (c := c) (by omega) hT hB1 (fun q => hB2 (by omega)) (fun q => hB3 (by omega)) h1 h4 hi2 hx hy (fun x hm => (bx x hm).1) by_ (by omega)
      refine ⟨_, r_bT, .inl ⟨_, .inl (by rw [r_sS, Int.zero_add]; exact st), rs ++ [q], by simp [hl], fun z hz => ?_, rfl⟩⟩
      rcases List.mem_append.mp hz with hz | hz
      · exact hg z hz
      · simp at hz
        rw [hz]
        exact g)
    (fun e hP' => by
      obtain ⟨rs, hl, hg, rfl⟩ := hP'
      exact ⟨rs, by simpa using hl, hg, _, rfl, rfl⟩)
    ⟨[], rfl, by simp, rfl⟩
  obtain ⟨rs, hl, hg, e, he, h8⟩ := loop
  refine ⟨rs, hl, hg, ?_⟩
  unfold _law_timed
  rw [runDef_eq (by rfl)]
  have m1 : binI .mul 8 (c : Int) = .ok (8 * c) := binI_mul (.inl (lim64_t (by decide) (by decide)))
  have m2 : binI .mul 6 (c : Int) = .ok (6 * c) := binI_mul (.inl (lim64_t (by decide) (by decide)))
  have s1 := shl_n (n := n) (by omega)
  have s2 := shl_tp (n := n) (by omega)
  have z0 : (0 ≤ sizeL) = True := szn (by simp)
  have l3 : lim62 (c : Int) = true := lim62_t (by omega) (by omega)
  simp at ex ey he
  simp [b__law_timed, m1, m2, s1, s2, ex, ey, z0, l3, he, h8]
end Law

namespace Law
open Fx
theorem two_toNat (n : Nat) : ((2 : Int) ^ n).toNat = 2 ^ n := by rw [two_nat, Int.toNat_natCast]
theorem two_le {n : Nat} (h : n ≤ 5) : ((2 : Int) ^ n) ≤ 32 ∧ 0 ≤ ((2 : Int) ^ n) := by
  have h2 : 2 ^ n ≤ 2 ^ 5 := Nat.pow_le_pow_right (by decide) h
  rw [two_nat]
  exact ⟨Int.ofNat_le.mpr h2, Int.natCast_nonneg _⟩
theorem psD_sm : ∀ ps : List (Int × Int), smL (psD ps) = true ∧ D.depL (psD ps) ≤ 1
  | [] => ⟨rfl, by show 0 ≤ 1; decide⟩
  | p :: ps => by
    have ih := psD_sm ps
    refine ⟨?_, ?_⟩
    · show (sm (pD p) && smL (psD ps)) = true
      rw [ih.1]; simp [pD, sm, smL]
    · show max (D.dep (pD p)) (D.depL (psD ps)) ≤ 1
      have e : D.dep (pD p) = 1 := rfl
      omega
theorem ex_split {env : Env} : ∀ (k : Nat) (ss : List S) , execs ss env = goOn (execs (ss.take k) env) fun e => execs (ss.drop k) e := by
  intro k
  induction k generalizing env with
  | zero => intro ss; simp
  | succ k ih =>
    intro ss
    cases ss with
    | nil => simp
    | cons s ss =>
      simp only [r_x, List.take_succ_cons, List.drop_succ_cons]
      cases exec s env with
      | nx e => simp only [goOn_nx]; exact ih ss
      | rt v => rfl
      | bk e => rfl
      | ct e => rfl
      | ex C fs e => rfl
      | no => rfl
theorem pick {xs : List D} {i : Int} (h0 : 0 ≤ i) (h1 : i < xs.length) : ∃ d ∈ xs, atIx xs i = some d := by
  obtain ⟨k, rfl⟩ : ∃ k : Nat, i = k := ⟨i.toNat, by omega⟩
  have hk : k < xs.length := by omega
  exact ⟨xs[k], List.getElem_mem hk, by rw [atIx_nat]; exact List.getElem?_eq_getElem hk⟩
theorem ixI {xs : List Int} {i : Int} {k : Nat} (e : i = k) (h : k < xs.length) : atIx (intL xs) i = some (.int xs[k]) := by
  subst e
  rw [atIx_nat]
  simp [intL, h]
theorem ixP {ps : List (Int × Int)} {k : Nat} (h : k < ps.length) : atIx (psD ps) (k : Int) = some (.tup [.int ps[k].1, .int ps[k].2]) := by
  rw [atIx_nat]
  simp [psD, h, pD]
theorem set_last {ps : List D} {a d : D} : setList (ps ++ [a]) (ps.length : Int) d = some (ps ++ [d]) := by
  unfold setList
  rw [if_pos (Int.natCast_nonneg _), if_pos (by simp)]
  simp
theorem set_at {ps : List (Int × Int)} {k : Nat} {p : Int × Int} (h : k < ps.length) : setList (psD ps) (k : Int) (pD p) = some (psD (ps.set k p)) := by
  unfold setList
  rw [if_pos (Int.natCast_nonneg _), if_pos (by rw [psD_len]; simpa using h)]
  simp [psD, List.map_set]
@[simp] theorem setItemD_l {xs : List D} {i : Int} {d : D} : setItemD (.lst xs) (.int i) d = (R.ofOpt (setList xs i d)).bind fun ys => .ok (.lst ys) := id rfl
section
variable {n : Nat}
theorem can_pos (h1 : 1 ≤ n) (h4 : n ≤ 4) : 0 < ((List.range 16).filter fun k : Nat => bit (tp n - 1) k).length := by
  rcases (show n = 1 ∨ n = 2 ∨ n = 3 ∨ n = 4 by omega) with rfl | rfl | rfl | rfl <;> decide +kernel
end
end Law

namespace Law
open Fx
@[simp] theorem r_chainI {o1 o2 : Cop} {env : Env} {a b c : E} : eval (.chain o1 o2 a b c) env = (eval a env).bind fun x => (eval b env).bind fun y => (cmpop o1 x.2 y.2).bind fun r => if r then (eval c env).bind fun z => (cmpop o2 y.2 z.2).bind fun r2 => .ok (.frz, .bl r2) else .ok (.frz, .bl false) := by simp only [eval]
@[simp] theorem r_stl {env : Env} {tp : Bool} {bs : List Bool} {es : List E} : eval (.stl tp bs es) env = (evalStl bs es env).bind fun ds => if ds.length ≤ sizeL then (if tp then .ok (.frz, .tup ds) else .ok (.own, .lst ds)) else .no := by simp only [eval]
@[simp] theorem r_stl0 {env : Env} : evalStl [] [] env = .ok [] := by simp only [evalStl]
@[simp] theorem r_stlT {env : Env} {bs : List Bool} {e : E} {es : List E} : evalStl (true :: bs) (e :: es) env = (eval e env).bind fun v => (seqItems v.2).bind fun xs => (evalStl bs es env).bind fun ys => .ok (xs ++ ys) := by simp only [evalStl]
@[simp] theorem r_stlF {env : Env} {bs : List Bool} {e : E} {es : List E} : evalStl (false :: bs) (e :: es) env = (eval e env).bind fun v => (esc (pas v)).bind fun x => (evalStl bs es env).bind fun ys => .ok (x :: ys) := by simp only [evalStl]
@[simp] theorem r_seqT {xs : List D} : seqItems (.tup xs) = .ok xs := id rfl
@[simp] theorem r_seqL {xs : List D} : seqItems (.lst xs) = .ok xs := id rfl
@[simp] theorem r_addT {xs ys : List D} : binop .add (.tup xs) (.tup ys) = if xs.length ≤ sizeL ∧ ys.length ≤ sizeL ∧ xs.length + ys.length ≤ sizeL then .ok (.frz, .tup (xs ++ ys)) else .no := id rfl
@[simp] theorem r_addL {xs ys : List D} : binop .add (.lst xs) (.lst ys) = if xs.length ≤ sizeL ∧ ys.length ≤ sizeL ∧ xs.length + ys.length ≤ sizeL then .ok (.own, .lst (xs ++ ys)) else .no := id rfl
theorem szB {n : Nat} (h : n ≤ 100000) : (n ≤ sizeL) = True := by
  have : sizeL = 16777216 := rfl
  simp only [eq_iff_iff, iff_true]
  omega
theorem szBl {n : Nat} (h : n ≤ 100000) : (n < sizeL) = True := by
  have : sizeL = 16777216 := rfl
  simp only [eq_iff_iff, iff_true]
  omega
def wSo : PySem.Str := "so"
def wDue : PySem.Str := "due"
def wMake : PySem.Str := "make"
def wStrike : PySem.Str := "strike"
/-- an act: its word, its numbers -/
abbrev Act := PySem.Str × List Int
abbrev Pow := Int × PySem.Str × Int × Act
def acD (a : Act) : D := .tup (.str a.1 :: intL a.2)
def pwD (p : Pow) : D := .tup [.int p.1, .str p.2.1, .int p.2.2.1, acD p.2.2.2]
def bkD (n : Nat) (ps : List (Int × Int)) : D := .ins 1 [.int n, .tup (psD ps)]
def okAct (n : Nat) (size : Nat) (a : Act) : Bool := if a.1 = wMake then (match a.2 with | [b, h] => okP n b && okP n h | _ => false) else if a.1 = wStrike then (match a.2 with | [k] => decide (0 ≤ k) && decide (k < size) | _ => false) else false
def okKi (k : PySem.Str) : Bool := (wSo == k) || (wDue == k)
def okPow (n size : Nat) (people : Int) (p : Pow) : Bool := decide (0 ≤ p.1) && (decide (p.1 < people) && (okKi p.2.1 && (okP n p.2.2.1 && okAct n size p.2.2.2)))
theorem nin_needs {k : PySem.Str} (hk : (D.str k).cmpOk = true) : cmpop .nin (.str k) (.tup [.str "so", .str "due"]) = .ok (!okKi k) := by
  have h2 : (D.tup [.str "so", .str "due"]).cmpOk = true := by decide +kernel
  have e : cmpop .nin (.str k) (.tup [.str "so", .str "due"]) = (inOp (.str k) (.tup [.str "so", .str "due"])).bind (fun b => R.ok (!b)) := rfl
  rw [e, inOp_tup hk h2]
  simp [D.eqv, okKi, wSo, wDue]
section
variable {n : Nat} {ps : List (Int × Int)} {people : Int}
theorem size_eq (hl : ps.length ≤ 4096) : Book_size [(.frz, bkD n ps)] = .ok (.frz, .int ps.length) := by
  unfold Book_size
  rw [runDef_eq (by rfl)]
  have z := szn hl
  unfold bkD
  simp [b_Book_size, psD_len, z]
theorem is_act_eq (hn : n ≤ 5) (hl : ps.length ≤ 4096) {a : Act} (ha : a.2.length ≤ 4000) : is_act [(.frz, bkD n ps), (.frz, acD a)] = .ok (.frz, .bl (okAct n ps.length a)) := by
  unfold is_act
  rw [runDef_eq (by rfl)]
  obtain ⟨w, xs⟩ := a
  have ha : xs.length ≤ 4000 := ha
  have sm : (PySem.Str.ofString "strike" = PySem.Str.ofString "make") ↔ False := iff_of_false (by decide) id
  have sq := size_eq (n := n) hl
  have ip := fun p => is_prop_eq (n := n) (p := p) hn
  have i0 : atIx (D.str w :: intL xs) 0 = some (.str w) := rfl
  have zl := szB (n := xs.length + 1) (by omega)
  have ll : (D.str w :: intL xs).length = xs.length + 1 := by simp [intL_len]
  have hw : wMake = ("make" : PySem.Str) := rfl
  have hs : wStrike = ("strike" : PySem.Str) := rfl
  unfold okAct acD
  simp only
  by_cases h1 : w = wMake
  · rw [if_pos h1]
    subst h1
    match xs, zl, ll, i0 with
    | [], _, _, _ =>
      have z := szB (n := 1) (by decide)
      unfold bkD at *
      simp [b_is_act, hw, intL, z, show atIx [D.str "make"] 0 = some (.str "make") from rfl]
    | [b], _, _, _ =>
      have z := szB (n := 2) (by decide)
      unfold bkD at *
      simp [b_is_act, hw, intL, z, show atIx [D.str "make", .int b] 0 = some (.str "make") from rfl]
    | [b, h], _, _, _ =>
      have z := szB (n := 3) (by decide)
      unfold bkD at *
      have e0 : atIx [D.str "make", .int b, .int h] 0 = some (.str "make") := rfl
      have e1 : atIx [D.str "make", .int b, .int h] 1 = some (.int b) := rfl
      have e2 : atIx [D.str "make", .int b, .int h] 2 = some (.int h) := rfl
      cases hb : okP n b <;> simp [b_is_act, hw, intL, z, e0, e1, e2, ip, hb]
    | b :: h :: c :: r, zl, ll, i0 =>
      have ne : ¬ (((r.length + 1 + 1 + 1 + 1 : Nat) : Int) = 3) := by omega
      have ne2 : ¬ ((r.length : Int) + 1 + 1 + 1 + 1 = 3) := by omega
      have z := szB (n := r.length + 1 + 1 + 1 + 1) (by simp at ha; omega)
      simp only [intL, List.map_cons, hw] at i0
      have lr : (intL r).length = r.length := intL_len _
      unfold bkD at *
      unfold intL at *
      simp [b_is_act, hw, i0, z, ne, ne2]
  · rw [if_neg h1]
    have h1' : ¬ (w = ("make" : PySem.Str)) := h1
    by_cases h2 : w = wStrike
    · rw [if_pos h2]
      subst h2
      match xs, zl, ll, i0 with
      | [], _, _, _ =>
        have z := szB (n := 1) (by decide)
        unfold bkD at *
        simp [b_is_act, sm, hs, intL, z, show atIx [D.str "strike"] 0 = some (.str "strike") from rfl]
      | [k], _, _, _ =>
        have z := szB (n := 2) (by decide)
        unfold bkD at *
        have e0 : atIx [D.str "strike", .int k] 0 = some (.str "strike") := rfl
        have e1 : atIx [D.str "strike", .int k] 1 = some (.int k) := rfl
        by_cases hk : 0 ≤ k <;> simp [b_is_act, sm, hs, intL, z, e0, e1, sq, hk]
      | b :: h :: r, zl, ll, i0 =>
        have ne : ¬ (((r.length + 1 + 1 + 1 : Nat) : Int) = 2) := by omega
        have ne2 : ¬ ((r.length : Int) + 1 + 1 + 1 = 2) := by omega
        have z := szB (n := r.length + 1 + 1 + 1) (by simp at ha; omega)
        simp only [intL, List.map_cons, hs] at i0
        unfold bkD at *
        unfold intL at *
        simp [b_is_act, sm, hs, i0, z, ne, ne2]
    · rw [if_neg h2]
      have h2' : ¬ (w = ("strike" : PySem.Str)) := h2
      unfold bkD at *
      simp [b_is_act, i0, h1', h2']
theorem is_power_eq (hn : n ≤ 5) (hl : ps.length ≤ 4096) {p : Pow} (hk : (D.str p.2.1).cmpOk = true) (ha : p.2.2.2.2.length ≤ 4000) : is_power [(.frz, bkD n ps), (.frz, .int people), (.frz, pwD p)] = .ok (.frz, .bl (okPow n ps.length people p)) := by
  unfold is_power
  rw [runDef_eq (by rfl)]
  obtain ⟨pe, k, need, a⟩ := p
  have nn := nin_needs hk
  have ip := is_prop_eq (n := n) (p := need) hn
  have ac := is_act_eq (n := n) hn hl (a := a) ha
  unfold okPow
  simp only at *
  unfold pwD acD bkD at *
  simp only at *
  generalize (D.str a.1 :: intL a.2) = L at *
  by_cases h1 : 0 ≤ pe
  · by_cases h2 : pe < people
    · cases h3 : okKi k with
      | false => rw [h3] at nn; simp [b_is_power, h1, h2, nn]
      | true =>
        rw [h3] at nn
        cases h4 : okP n need with
        | false => rw [h4] at ip; simp [b_is_power, h1, h2, nn, ip]
        | true => rw [h4] at ip; simp [b_is_power, h1, h2, nn, ip, ac]
    · simp [b_is_power, h1, h2]
  · simp [b_is_power, h1]
end
end Law

namespace Law
open Fx
section
variable {n : Nat} {ps : List (Int × Int)} {people : Int} {pws : List Pow}
/-- a power as the law draws them -/
def Plain (p : Pow) : Prop := (D.str p.2.1).cmpOk = true ∧ p.2.2.2.2.length ≤ 4000
def pwL (pws : List Pow) : List D := pws.map pwD
theorem pwL_len (pws : List Pow) : (pwL pws).length = pws.length := by simp [pwL]
theorem book_init (h1 : 1 ≤ n) (h4 : n ≤ 4) (hl : ps.length ≤ 16) (hp : ∀ p ∈ ps, okP n p.1 = true ∧ okP n p.2 = true) : Book___init__ [(.frz, .int n), (.frz, .lst (psD ps))] = .ok (.own, bkD n ps) := by
  unfold Book___init__
  rw [runInit_eq (by rfl)]
  have c1 : (1 : Int) ≤ n := by omega
  have c2 : (n : Int) ≤ 4 := by omega
  have c3 : ¬ ((16 : Int) < ps.length) := by omega
  have c4 : ¬ (16 < ps.length) := by omega
  have hz := szn (n := ps.length) (by omega)
  have run := for_run (bindf := fun d env => bindT (.tp [(.nm 4), (.tp [(.nm 5), (.nm 6)])]) d env) (body := fun env => execs lp_Book___init___1 env) (fg := [4, 5, 6]) (items := enumL (psD ps))
    (fun i => [some (.own, .ins 1 []), some (.frz, .int n), some (.frz, .lst (psD ps)), some (.own, .lst (psD (ps.take i))), none, none, none])
    fun i d hi => by
      obtain ⟨p, hp2, rfl⟩ := enum_get hi
      have il := (List.getElem?_eq_some_iff.mp hp2).1
      obtain ⟨k1, k2⟩ := hp p (List.mem_of_getElem? hp2)
      have e1 := is_prop_eq (n := n) (p := p.1) (by omega)
      have e2 := is_prop_eq (n := n) (p := p.2) (by omega)
      rw [k1] at e1
      rw [k2] at e2
      have et : psD (ps.take (i + 1)) = psD (ps.take i) ++ [pD p] := by unfold psD; rw [List.take_succ, hp2, List.map_append]; rfl
      have lt : (psD (ps.take i)).length = i := by rw [psD_len, List.length_take]; omega
      have zl := szBl (n := i) (by omega)
      have z2 := szB (n := 2) (by decide)
      rw [et]
      generalize psD (ps.take i) = A at *
      refine ⟨[some (.own, .ins 1 []), some (.frz, .int n), some (.frz, .lst (psD ps)), some (.own, .lst A), some (.frz, .int i), some (.frz, .int p.1), some (.frz, .int p.2)], [some (.own, .ins 1 []), some (.frz, .int n), some (.frz, .lst (psD ps)), some (.own, .lst (A ++ [pD p])), some (.frz, .int i), some (.frz, .int p.1), some (.frz, .int p.2)], ?_, ?_, rfl⟩
      · unfold pD
        simp
      · unfold pD
        simp [lp_Book___init___1, e1, e2, ownL_eq, lt, zl, z2]
  have el : (enumL (psD ps)).length = ps.length := enum_len ps
  rw [el, List.take_length] at run
  have e0 : psD (ps.take 0) = [] := rfl
  rw [e0] at run
  have zz : sizeL ≠ 0 := by show (16777216 : Nat) ≠ 0; decide
  try simp at run
  simp [b_Book___init__, c1, c2, psD_len, hz, c3, c4, run, ownS_eq, putField, bkD]
def cdD (n : Nat) (ps : List (Int × Int)) (people : Int) (pws : List Pow) : D := .ins 0 [bkD n ps, .int people, .tup (pwL pws), .int n]
/-- the error that is due -/
def cdErr (n : Nat) (size : Nat) (people : Int) (pws : List Pow) : Option (Nat × List D) := if 9 < size then some (2, [.int 9]) else if ¬ (1 ≤ people ∧ people ≤ 5) then some (1, [.int people]) else if 7 < pws.length then some (2, [.int 7]) else match pws.findIdx? (fun p => !okPow n size people p) with
  | some i => some (4, [.int i])
  | none => none
theorem penum_get {i : Nat} {d : D} (h : (enumL (pwL pws))[i]? = some d) : ∃ p, pws[i]? = some p ∧ d = .tup [.int (i : Int), pwD p] := by
  unfold enumL pwL at h
  rw [List.getElem?_mapIdx, List.getElem?_map] at h
  cases e : pws[i]? with
  | none => rw [e] at h; cases h
  | some p => rw [e] at h; cases h; exact ⟨p, rfl, rfl⟩
theorem code_loop (hn : n ≤ 5) (hl : ps.length ≤ 4096) (hp : ∀ p ∈ pws, Plain p) {x3 : Option Val} :
    let env0 : Env := [some (.own, .ins 0 []), some (.frz, bkD n ps), some (.frz, .int people), x3, none, none]
    (pws.findIdx? (fun p => !okPow n ps.length people p) = none ∧ forLoop (fun d env => bindT (.tp [(.nm 4), (.nm 5)]) d env) (fun env => execs lp_Code___init___1 env) [4, 5] (enumL (pwL pws)) env0 = .nx env0) ∨
    ∃ i e, pws.findIdx? (fun p => !okPow n ps.length people p) = some i ∧ forLoop (fun d env => bindT (.tp [(.nm 4), (.nm 5)]) d env) (fun env => execs lp_Code___init___1 env) [4, 5] (enumL (pwL pws)) env0 = .ex 4 [.int (i : Int)] e := by
  intro env0
  refine for_ind (P := fun i e => e = env0 ∧ ∀ j p, j < i → pws[j]? = some p → okPow n ps.length people p = true)
    (Q := fun o => (pws.findIdx? (fun p => !okPow n ps.length people p) = none ∧ o = .nx env0) ∨ ∃ i e, pws.findIdx? (fun p => !okPow n ps.length people p) = some i ∧ o = .ex 4 [.int (i : Int)] e) (fun i d e hi hP => ?_) (fun e hP => ?_) ⟨rfl, fun j p h => absurd h (Nat.not_lt_zero _)⟩
  · obtain ⟨rfl, hP⟩ := hP
    obtain ⟨p, hp2, rfl⟩ := penum_get hi
    have pl := hp p (List.mem_of_getElem? hp2)
    have ip := is_power_eq (n := n) (ps := ps) (people := people) hn hl (p := p) pl.1 pl.2
    have e1 : bindT (.tp [(.nm 4), (.nm 5)]) (.tup [.int (i : Int), pwD p]) env0 = .ok [some (.own, .ins 0 []), some (.frz, bkD n ps), some (.frz, .int people), x3, some (.frz, .int i), some (.frz, pwD p)] := by
      show bindT (.tp [(.nm 4), (.nm 5)]) (.tup [.int (i : Int), pwD p]) [some (.own, .ins 0 []), some (.frz, bkD n ps), some (.frz, .int people), x3, none, none] = _
      simp
    unfold bkD pwD at *
    cases hk : okPow n ps.length people p with
    | true =>
      rw [hk] at ip
      refine ⟨_, e1, .inl ⟨_, .inl (by simp [lp_Code___init___1, ip]; rfl), by simp [env0, bkD], fun j p' hj hp' => ?_⟩⟩
      rcases Nat.lt_succ_iff_lt_or_eq.mp hj with h | h
      · exact hP j p' h hp'
      · subst h
        rw [hp2] at hp'; cases hp'
        exact hk
    | false =>
      rw [hk] at ip
      refine ⟨_, e1, .inr (.inr (.inr ⟨4, [.int (i : Int)], _, by simp [lp_Code___init___1, ip]; rfl, .inr ⟨i, _, ?_, rfl⟩⟩))⟩
      rw [List.findIdx?_eq_some_iff_getElem]
      obtain ⟨hl, e⟩ := List.getElem?_eq_some_iff.mp hp2
      refine ⟨hl, by rw [e, hk]; rfl, fun j hj => ?_⟩
      rw [hP j _ hj (List.getElem?_eq_getElem _)]
      simp
  · obtain ⟨rfl, hP⟩ := hP
    left
    refine ⟨?_, rfl⟩
    rw [List.findIdx?_eq_none_iff]
    intro p hp
    obtain ⟨j, hj, rfl⟩ := List.getElem_of_mem hp
    rw [hP j _ (by simpa [enumL, pwL] using hj) (List.getElem?_eq_getElem hj)]
    rfl
theorem code_init (hn : n ≤ 5) (hl : ps.length ≤ 4096) (hp : ∀ p ∈ pws, Plain p) (hq : pws.length ≤ 4000) {m : Mode} {d : D} (hm : (m = .frz ∨ m = .bor) ∧ (d = .lst (pwL pws) ∨ d = .tup (pwL pws))) :
    Code___init__ [(.frz, bkD n ps), (.frz, .int people), (m, d)] = match cdErr n ps.length people pws with
      | some (C, fs) => .ex C fs
      | none => .ok (.own, cdD n ps people pws) := by
  unfold Code___init__
  rw [runInit_eq (by rfl)]
  have sq := size_eq (n := n) hl
  have lp := code_loop (n := n) (ps := ps) (people := people) hn hl hp (x3 := some (m, d))
  have hz := szB (n := pws.length) (by omega)
  have hta : toArg (m, d) = (m, d) := by rcases hm.1 with rfl | rfl <;> rfl
  have hrd : rdO (some (some (m, d))) = .ok (m, d) := by rcases hm.1 with rfl | rfl <;> rcases hm.2 with rfl | rfl <;> rfl
  have hpas : pas (m, d) = (m, d) := by rcases hm.1 with rfl | rfl <;> rfl
  have hno : noLnt (m, d) = .ok d := by rcases hm.1 with rfl | rfl <;> rfl
  have hlen : biOp .len [d] = .ok (.frz, .int pws.length) := by
    have z : (pwL pws).length ≤ sizeL := by rw [pwL_len]; rw [hz]; trivial
    rcases hm.2 with rfl | rfl
    · show (if (pwL pws).length ≤ sizeL then R.ok (Mode.frz, D.int (pwL pws).length) else .no) = _
      rw [if_pos z, pwL_len]
    · show (if (pwL pws).length ≤ sizeL then R.ok (Mode.frz, D.int (pwL pws).length) else .no) = _
      rw [if_pos z, pwL_len]
  have htup : biOp .tuple [d] = .ok (.frz, .tup (pwL pws)) := by rcases hm.2 with rfl | rfl <;> rfl
  have hen : srcItems .enum [d] = .ok (enumL (pwL pws)) := by rcases hm.2 with rfl | rfl <;> rfl
  have hbook : isExc (bkD n ps) = false := rfl
  unfold cdErr
  unfold cdD
  unfold bkD at *
  by_cases h1 : 9 < ps.length
  · rw [if_pos h1]
    have h1' : (9 : Int) < ps.length := by omega
    simp [b_Code___init__, hta, sq, h1', h1]
  · rw [if_neg h1]
    have h1' : ¬ ((9 : Int) < ps.length) := by omega
    by_cases h2 : 1 ≤ people ∧ people ≤ 5
    · rw [if_neg (by simpa using h2)]
      by_cases h3 : 7 < pws.length
      · rw [if_pos h3]
        have h3' : (7 : Int) < pws.length := by omega
        simp [b_Code___init__, hta, hrd, hpas, hlen, sq, h1', h1, h2.1, h2.2, h3', h3]
      · rw [if_neg h3]
        have h3' : ¬ ((7 : Int) < pws.length) := by omega
        rcases lp with ⟨l1, l2⟩ | ⟨i, e, l1, l2⟩
        · rw [l1]
          try simp at l2
          simp [b_Code___init__, hta, hrd, hpas, hno, hlen, hen, htup, sq, h1', h1, h2.1, h2.2, h3', h3, l2, ownS_eq, putField]
        · rw [l1]
          try simp at l2
          simp [b_Code___init__, hta, hrd, hpas, hno, hlen, hen, htup, sq, h1', h1, h2.1, h2.2, h3', h3, l2]
    · rw [if_pos h2]
      by_cases h2a : 1 ≤ people
      · have h2b : ¬ people ≤ 5 := fun z => h2 ⟨h2a, z⟩
        simp [b_Code___init__, hta, sq, h1', h1, h2a, h2b]
      · simp [b_Code___init__, hta, sq, h1', h1, h2a]
end
end Law

namespace Law
open Fx
theorem ok_rg {n : Nat} {p : Int} : okP n p = true ↔ 0 ≤ p ∧ p < tp n := by unfold okP; simp
section
variable {ns : List Int} {n : Nat} {ps : List (Int × Int)} {people : Int} {pws : List Pow}
theorem mulB {a : Int} {b : Nat} (h : a.natAbs < 100) : binI .mul a (b : Int) = .ok (a * b) := binI_mul (.inl (lim64_t (by omega) (by omega)))
def e13 (ns : List Int) (a n c : Nat) (dr ks : List Int) (x8 x9 x10 x11 x12 : Option Val) : Env := [some (.frz, .scr ns), some (.frz, .int a), some (.frz, .int n), some (.frz, .int c), some (.frz, .int 3), some (.frz, .int (tp n)), some (.frz, .lst (intL dr)), some (.frz, .lst (intL ks)), x8, x9, x10, x11, x12]
theorem rules_step {a c k : Nat} {dr ks : List Int} (h1 : 1 ≤ n) (h4 : n ≤ 4) (hd : dr.length = 3 * c) (hk : ks.length = c) (bd : ∀ x ∈ dr, 0 ≤ x ∧ x < tp n) (hkc : k < c) (hc : c ≤ 100) (hp : ∀ p ∈ ps, okP n p.1 = true ∧ okP n p.2 = true) (hl : ps.length = k) :
    ∃ p x10 x11 x12, (okP n p.1 = true ∧ okP n p.2 = true) ∧ execs lp__law_rules_1 (e13 ns a n c dr ks (some (.own, .lst (psD ps))) (some (.frz, .int (k : Int))) none none none) = .nx (e13 ns a n c dr ks (some (.own, .lst (psD (ps ++ [p])))) (some (.frz, .int (k : Int))) x10 x11 x12) := by
  have j0 : 3 * k < dr.length := by omega
  have j1 : 3 * k + 1 < dr.length := by omega
  have j2 : 3 * k + 2 < dr.length := by omega
  have j3 : k < ks.length := by omega
  have a0 : atIx (intL dr) (3 * (k : Int)) = some (.int dr[3 * k]) := ixI (by push_cast; rfl) j0
  have a1 : atIx (intL dr) (3 * (k : Int) + 1) = some (.int dr[3 * k + 1]) := ixI (by push_cast; rfl) j1
  have a2 : atIx (intL dr) (3 * (k : Int) + 2) = some (.int dr[3 * k + 2]) := ixI (by push_cast; rfl) j2
  have a3 : atIx (intL ks) (k : Int) = some (.int ks[k]) := ixI rfl j3
  have b0 := bd _ (List.getElem_mem j0)
  have b1 := bd _ (List.getElem_mem j1)
  have b2 := bd _ (List.getElem_mem j2)
  generalize dr[3 * k] = x at *
  generalize dr[3 * k + 1] = y at *
  generalize dr[3 * k + 2] = z at *
  generalize ks[k] = w at *
  have ml : binI .mul 3 (k : Int) = .ok (3 * (k : Int)) := mulB (by decide)
  have m6 : binI .mod w 6 = .ok (w % 6) := binI_mod (by decide)
  have t0 := tp_pos n
  have t4 : 4 ≤ tp n := by
    rcases (show n = 1 ∨ n = 2 ∨ n = 3 ∨ n = 4 by omega) with rfl | rfl | rfl | rfl <;> decide
  have o1 := or_lt (n := n) (a := x) (b := 3) b0 (by omega)
  have o2 := or_lt (n := n) b1 b2
  have zl := szBl (n := ps.length) (by omega)
  have z2 := szB (n := 2) (by decide)
  have lp := psD_len ps
  have et : ∀ p, psD (ps ++ [p]) = psD ps ++ [pD p] := fun p => by simp [psD]
  -- the head
  obtain ⟨h, hh, eh⟩ : ∃ h : Int, (0 ≤ h ∧ h < tp n) ∧ h = if 5 < w then PySem.Builtin.bitOr y z else y := ⟨_, by by_cases hw : 5 < w <;> simp [hw] <;> omega, rfl⟩
  -- the body
  by_cases c1 : w % 6 < 2
  · have n2 : ¬ (w % 6 = 2) := by omega
    have n3 : ¬ (w % 6 = 3) := by omega
    refine ⟨(tp n - 1, h), some (.frz, .int (tp n - 1)), some (.frz, .int h), some (.frz, .int (w % 6)), ⟨ok_rg.mpr (by show _ ∧ _; omega), ok_rg.mpr hh⟩, ?_⟩
    rw [et]
    unfold e13 pD
    by_cases hw : 5 < w
    · rw [if_pos hw] at eh; subst eh
      simp [lp__law_rules_1, ml, m6, a0, a1, a2, a3, c1, n2, n3, hw, ownL_eq, lp, zl, z2]
    · rw [if_neg hw] at eh; subst eh
      simp [lp__law_rules_1, ml, m6, a0, a1, a2, a3, c1, n2, n3, hw, ownL_eq, lp, zl, z2]
  · by_cases c2 : w % 6 = 2
    · have n3 : ¬ (w % 6 = 3) := by omega
      have n1 : ¬ ((2 : Int) < 2) := by decide
      refine ⟨(PySem.Builtin.bitOr x 3, h), some (.frz, .int (PySem.Builtin.bitOr x 3)), some (.frz, .int h), some (.frz, .int (w % 6)), ⟨ok_rg.mpr o1, ok_rg.mpr hh⟩, ?_⟩
      rw [et]
      unfold e13 pD
      by_cases hw : 5 < w
      · rw [if_pos hw] at eh; subst eh
        simp [lp__law_rules_1, ml, m6, a0, a1, a2, a3, c2, hw, ownL_eq, lp, zl, z2]
      · rw [if_neg hw] at eh; subst eh
        simp [lp__law_rules_1, ml, m6, a0, a1, a2, a3, c2, hw, ownL_eq, lp, zl, z2]
    · by_cases c3 : w % 6 = 3 ∧ 0 < k
      · obtain ⟨c3, k0⟩ := c3
        have k0' : (0 : Int) < k := by omega
        have jl : k - 1 < ps.length := by omega
        have ix : atIx (psD ps) ((k : Int) - 1) = some (.tup [.int ps[k - 1].1, .int ps[k - 1].2]) := by
          have e : (k : Int) - 1 = ((k - 1 : Nat) : Int) := by omega
          rw [e]
          exact ixP jl
        have hpk := hp _ (List.getElem_mem jl)
        have o3 := or_lt (n := n) (a := ps[k - 1].2) (b := x) (ok_rg.mp hpk.2) b0
        generalize ps[k - 1] = q at *
        have ix1 : atIx [D.int q.1, .int q.2] 1 = some (.int q.2) := rfl
        refine ⟨(PySem.Builtin.bitOr q.2 x, h), some (.frz, .int (PySem.Builtin.bitOr q.2 x)), some (.frz, .int h), some (.frz, .int (w % 6)), ⟨ok_rg.mpr o3, ok_rg.mpr hh⟩, ?_⟩
        rw [et]
        unfold e13 pD
        by_cases hw : 5 < w
        · rw [if_pos hw] at eh; subst eh
          simp [lp__law_rules_1, ml, m6, a0, a1, a2, a3, c3, k0, k0', ix, ix1, hw, ownL_eq, lp, zl, z2]
        · rw [if_neg hw] at eh; subst eh
          simp [lp__law_rules_1, ml, m6, a0, a1, a2, a3, c3, k0, k0', ix, ix1, hw, ownL_eq, lp, zl, z2]
      · refine ⟨(x, h), some (.frz, .int x), some (.frz, .int h), some (.frz, .int (w % 6)), ⟨ok_rg.mpr b0, ok_rg.mpr hh⟩, ?_⟩
        rw [et]
        unfold e13 pD
        by_cases c4 : w % 6 = 3
        · have k0 : ¬ (0 < k) := fun z => c3 ⟨c4, z⟩
          have k1 : k = 0 := by omega
          by_cases hw : 5 < w
          · rw [if_pos hw] at eh; subst eh
            subst k1
            simp at ml a0 a1 a2 a3
            simp [lp__law_rules_1, ml, m6, a0, a1, a2, a3, c4, hw, ownL_eq, lp, zl, z2]
          · rw [if_neg hw] at eh; subst eh
            subst k1
            simp at ml a0 a1 a2 a3
            simp [lp__law_rules_1, ml, m6, a0, a1, a2, a3, c4, hw, ownL_eq, lp, zl, z2]
        · by_cases hw : 5 < w
          · rw [if_pos hw] at eh; subst eh
            simp [lp__law_rules_1, ml, m6, a0, a1, a2, a3, c1, c2, c4, hw, ownL_eq, lp, zl, z2]
          · rw [if_neg hw] at eh; subst eh
            simp [lp__law_rules_1, ml, m6, a0, a1, a2, a3, c1, c2, c4, hw, ownL_eq, lp, zl, z2]
theorem rules_ok {a c : Nat} (h : ns.length ≤ 63) (h1 : 1 ≤ n) (h4 : n ≤ 4) (ha : a ≤ 100) (hc : c ≤ 20) :
    ∃ ps : List (Int × Int), ps.length = c ∧ (∀ p ∈ ps, okP n p.1 = true ∧ okP n p.2 = true) ∧ _law_rules [(.frz, .scr ns), (.frz, .int a), (.frz, .int n), (.frz, .int c), (.frz, .int 3)] = .ok (.own, .lst (psD ps)) := by
  obtain ⟨dr, hd, bd, ed⟩ := numbers_eq (a := a) (c := 3 * c) (r := tp n) h (by omega) (by omega) (tp_pos n) (tp_lt (by omega))
  obtain ⟨ks, hk, bk, ek⟩ := numbers_eq (a := a + 1) (c := c) (r := 12) h (by omega) (by omega) (by decide) (by decide)
  have loop := for_ind (bindf := fun d env => bindT (.nm 9) d env) (body := fun env => execs lp__law_rules_1 env) (fg := [9, 10, 11, 12]) (items := rngL 0 c)
    (env := e13 ns a n c dr ks (some (.own, .lst [])) none none none none)
    (Q := fun o => ∃ ps : List (Int × Int), ps.length = c ∧ (∀ p ∈ ps, okP n p.1 = true ∧ okP n p.2 = true) ∧ o = .nx (e13 ns a n c dr ks (some (.own, .lst (psD ps))) none none none none))
    (P := fun i e => ∃ ps : List (Int × Int), ps.length = i ∧ (∀ p ∈ ps, okP n p.1 = true ∧ okP n p.2 = true) ∧ e = e13 ns a n c dr ks (some (.own, .lst (psD ps))) none none none none)
    (fun i d e hi hP => by
      obtain ⟨ps, hl, hp, rfl⟩ := hP
      obtain ⟨hi2, rfl⟩ := rngL_get hi
      obtain ⟨p, x10, x11, x12, kp, st⟩ := rules_step (ns := ns) (a := a) h1 h4 hd hk bd hi2 (by omega) hp hl
      refine ⟨_, r_bT, .inl ⟨_, .inl (by rw [r_sS, Int.zero_add]; exact st), ps ++ [p], by simp [hl], fun z hz => ?_, rfl⟩⟩
      rcases List.mem_append.mp hz with hz | hz
      · exact hp z hz
      · simp at hz; rw [hz]; exact kp)
    (fun e hP => by
      obtain ⟨ps, hl, hp, rfl⟩ := hP
      exact ⟨ps, by simpa using hl, hp, rfl⟩)
    ⟨[], rfl, (by simp), rfl⟩
  obtain ⟨ps, hl, hp, he⟩ := loop
  refine ⟨ps, hl, hp, ?_⟩
  unfold _law_rules
  rw [runDef_eq (by rfl)]
  have ml : binI .mul 3 (c : Int) = .ok (3 * (c : Int)) := mulB (by decide)
  have s1 := shl_n (n := n) (by omega)
  have s2 := shl_tp (n := n) (by omega)
  have l62 : lim62 (c : Int) = true := lim62_t (by omega) (by omega)
  have zz : sizeL ≠ 0 := by show (16777216 : Nat) ≠ 0; decide
  unfold e13 at he
  simp at ed ek he
  simp [b__law_rules, ml, s1, s2, ed, ek, zz, l62, he]
end
end Law

namespace Law
open Fx
section
variable {ns : List Int} {n : Nat} {ps : List (Int × Int)} {people : Int} {pws : List Pow}
def e15 (ns : List Int) (a n size : Nat) (people : Int) (c : Nat) (ks dr : List Int) (x9 x10 x11 x12 x13 x14 : Option Val) : Env := [some (.frz, .scr ns), some (.frz, .int a), some (.frz, .int n), some (.frz, .int size), some (.frz, .int people), some (.frz, .int c), some (.frz, .int (tp n)), some (.frz, .lst (intL ks)), some (.frz, .lst (intL dr)), x9, x10, x11, x12, x13, x14]
theorem plain_of {p : Pow} {n size : Nat} (h : p.2.1 = wSo ∨ p.2.1 = wDue) (h2 : p.2.2.2.2.length ≤ 2) : Plain p := by
  refine ⟨?_, by omega⟩
  rcases h with h | h <;> rw [h] <;> decide +kernel
theorem powers_step {a c k size : Nat} {dr ks : List Int} (h1 : 1 ≤ n) (h4 : n ≤ 4) (hpe : 1 ≤ people ∧ people ≤ 1000) (hs : size ≤ 1000) (hd : dr.length = 4 * c) (hk : ks.length = 4 * c) (bd : ∀ x ∈ dr, 0 ≤ x ∧ x < tp n) (bk : ∀ x ∈ ks, 0 ≤ x ∧ x < 840) (hkc : k < c) (hc : c ≤ 100) (hl : pws.length = k) :
    ∃ p x11 x12 x13 x14, (okPow n size people p = true ∧ Plain p) ∧ execs lp__law_powers_1 (e15 ns a n size people c ks dr (some (.own, .lst (pwL pws))) (some (.frz, .int (k : Int))) none none none none) = .nx (e15 ns a n size people c ks dr (some (.own, .lst (pwL (pws ++ [p])))) (some (.frz, .int (k : Int))) x11 x12 x13 x14) := by
  have j0 : 4 * k < dr.length := by omega
  have j1 : 4 * k + 1 < dr.length := by omega
  have j2 : 4 * k + 2 < dr.length := by omega
  have j3 : 4 * k + 3 < dr.length := by omega
  have i0 : 4 * k < ks.length := by omega
  have i1 : 4 * k + 1 < ks.length := by omega
  have i2 : 4 * k + 2 < ks.length := by omega
  have i3 : 4 * k + 3 < ks.length := by omega
  have a0 : atIx (intL dr) (4 * (k : Int)) = some (.int dr[4 * k]) := ixI (by push_cast; rfl) j0
  have a1 : atIx (intL dr) (4 * (k : Int) + 1) = some (.int dr[4 * k + 1]) := ixI (by push_cast; rfl) j1
  have a2 : atIx (intL dr) (4 * (k : Int) + 2) = some (.int dr[4 * k + 2]) := ixI (by push_cast; rfl) j2
  have a3 : atIx (intL dr) (4 * (k : Int) + 3) = some (.int dr[4 * k + 3]) := ixI (by push_cast; rfl) j3
  have c0 : atIx (intL ks) (4 * (k : Int)) = some (.int ks[4 * k]) := ixI (by push_cast; rfl) i0
  have c1 : atIx (intL ks) (4 * (k : Int) + 1) = some (.int ks[4 * k + 1]) := ixI (by push_cast; rfl) i1
  have c2 : atIx (intL ks) (4 * (k : Int) + 2) = some (.int ks[4 * k + 2]) := ixI (by push_cast; rfl) i2
  have c3 : atIx (intL ks) (4 * (k : Int) + 3) = some (.int ks[4 * k + 3]) := ixI (by push_cast; rfl) i3
  have b0 := bd _ (List.getElem_mem j0)
  have b1 := bd _ (List.getElem_mem j1)
  have b2 := bd _ (List.getElem_mem j2)
  have b3 := bd _ (List.getElem_mem j3)
  have g0 := bk _ (List.getElem_mem i0)
  have g3 := bk _ (List.getElem_mem i3)
  generalize dr[4 * k] = x0 at *
  generalize dr[4 * k + 1] = x1 at *
  generalize dr[4 * k + 2] = x2 at *
  generalize dr[4 * k + 3] = x3 at *
  generalize ks[4 * k] = w0 at *
  generalize ks[4 * k + 1] = w1 at *
  generalize ks[4 * k + 2] = w2 at *
  generalize ks[4 * k + 3] = w3 at *
  have ml : binI .mul 4 (k : Int) = .ok (4 * (k : Int)) := mulB (by decide)
  have m3 : ∀ w : Int, binI .mod w 3 = .ok (w % 3) := fun w => binI_mod (by decide)
  have m2 : ∀ w : Int, binI .mod w 2 = .ok (w % 2) := fun w => binI_mod (by decide)
  have m5 : ∀ w : Int, binI .mod w 5 = .ok (w % 5) := fun w => binI_mod (by decide)
  have d3 : ∀ w : Int, binI .fdiv w 3 = .ok (w / 3) := fun w => binI_fdiv (by decide) (by decide)
  have mp : ∀ w : Int, binI .mod w people = .ok (w % people) := fun w => binI_mod (by omega)
  have t0 := tp_pos n
  have o1 := or_lt (n := n) b0 b1
  have zl := szBl (n := pws.length) (by omega)
  have z2 := szB (n := 2) (by decide)
  have z3 := szB (n := 3) (by decide)
  have z4 := szB (n := 4) (by decide)
  have lp := pwL_len pws
  have et : ∀ p, pwL (pws ++ [p]) = pwL pws ++ [pwD p] := fun p => by simp [pwL]
  -- need
  obtain ⟨need, hn, e1⟩ : ∃ need : Int, (0 ≤ need ∧ need < tp n) ∧ execs (lp__law_powers_1.take 3) (e15 ns a n size people c ks dr (some (.own, .lst (pwL pws))) (some (.frz, .int (k : Int))) none none none none) = .nx (e15 ns a n size people c ks dr (some (.own, .lst (pwL pws))) (some (.frz, .int (k : Int))) (some (.frz, .int need)) none none none) := by
    by_cases q0 : w0 % 3 = 0
    · have q1 : ¬ (w0 % 3 = 1) := by omega
      exact ⟨tp n - 1, by omega, by unfold e15; simp [lp__law_powers_1, ml, a0, c0, m3, q0]⟩
    · by_cases q1 : w0 % 3 = 1
      · exact ⟨_, o1, by unfold e15; simp [lp__law_powers_1, ml, a0, a1, c0, m3, q1]⟩
      · exact ⟨x0, b0, by unfold e15; simp [lp__law_powers_1, ml, a0, a1, c0, m3, q0, q1]⟩
  obtain ⟨kind, hki, e2⟩ : ∃ kind : PySem.Str, (kind = wSo ∨ kind = wDue) ∧ execs ((lp__law_powers_1.drop 3).take 2) (e15 ns a n size people c ks dr (some (.own, .lst (pwL pws))) (some (.frz, .int (k : Int))) (some (.frz, .int need)) none none none) = .nx (e15 ns a n size people c ks dr (some (.own, .lst (pwL pws))) (some (.frz, .int (k : Int))) (some (.frz, .int need)) (some (.frz, .str kind)) none none) := by
    by_cases q0 : w1 % 2 = 1
    · exact ⟨wDue, .inr rfl, by unfold e15; simp [lp__law_powers_1, ml, c1, m2, q0, wDue]⟩
    · exact ⟨wSo, .inl rfl, by unfold e15; simp [lp__law_powers_1, ml, c1, m2, q0, wSo]⟩
  obtain ⟨body, hb, e3⟩ : ∃ body : Int, (0 ≤ body ∧ body < tp n) ∧ execs ((lp__law_powers_1.drop 5).take 2) (e15 ns a n size people c ks dr (some (.own, .lst (pwL pws))) (some (.frz, .int (k : Int))) (some (.frz, .int need)) (some (.frz, .str kind)) none none) = .nx (e15 ns a n size people c ks dr (some (.own, .lst (pwL pws))) (some (.frz, .int (k : Int))) (some (.frz, .int need)) (some (.frz, .str kind)) (some (.frz, .int body)) none) := by
    by_cases q0 : w1 % 5 < 2
    · exact ⟨x3, b3, by unfold e15; simp [lp__law_powers_1, ml, c1, a3, m5, q0]⟩
    · exact ⟨tp n - 1, by omega, by unfold e15; simp [lp__law_powers_1, ml, c1, m5, q0]⟩
  obtain ⟨act, ha, hal, e4⟩ : ∃ act : Act, okAct n size act = true ∧ act.2.length ≤ 2 ∧ execs ((lp__law_powers_1.drop 7).take 2) (e15 ns a n size people c ks dr (some (.own, .lst (pwL pws))) (some (.frz, .int (k : Int))) (some (.frz, .int need)) (some (.frz, .str kind)) (some (.frz, .int body)) none) = .nx (e15 ns a n size people c ks dr (some (.own, .lst (pwL pws))) (some (.frz, .int (k : Int))) (some (.frz, .int need)) (some (.frz, .str kind)) (some (.frz, .int body)) (some (.frz, acD act))) := by
    have mk : execs ((lp__law_powers_1.drop 7).take 1) (e15 ns a n size people c ks dr (some (.own, .lst (pwL pws))) (some (.frz, .int (k : Int))) (some (.frz, .int need)) (some (.frz, .str kind)) (some (.frz, .int body)) none) = .nx (e15 ns a n size people c ks dr (some (.own, .lst (pwL pws))) (some (.frz, .int (k : Int))) (some (.frz, .int need)) (some (.frz, .str kind)) (some (.frz, .int body)) (some (.frz, acD (wMake, [body, x2])))) := by
      have iL : intL [body, x2] = [.int body, .int x2] := rfl
      unfold e15
      simp [lp__law_powers_1, ml, a2, z3, acD, wMake, iL]
    by_cases q0 : 0 < size ∧ w2 % 3 = 1
    · obtain ⟨s0, q1⟩ := q0
      have s0' : (0 : Int) < size := by omega
      have ms : ∀ w : Int, binI .mod w size = .ok (w % size) := fun w => binI_mod s0'
      have r0 := Int.emod_nonneg w3 (b := size) (by omega)
      have r1 := Int.emod_lt_of_pos w3 s0'
      refine ⟨(wStrike, [w3 % size]), ?_, by simp, ?_⟩
      · unfold okAct
        rw [if_neg (show ¬ (wStrike = wMake) by decide), if_pos rfl]
        simp [r0, r1]
      · rw [ex_split 1]
        show goOn (execs ((lp__law_powers_1.drop 7).take 1) _) _ = _
        rw [mk, goOn_nx]
        have iL : intL [body, x2] = [.int body, .int x2] := rfl
        have iL1 : intL [w3 % size] = [.int (w3 % size)] := rfl
        unfold e15
        simp [lp__law_powers_1, ml, c2, c3, m3, s0, s0', q1, ms, z2, acD, wStrike, wMake, iL, iL1]
    · refine ⟨(wMake, [body, x2]), ?_, by simp, ?_⟩
      · unfold okAct
        rw [if_pos rfl]
        simp [ok_rg.mpr hb, ok_rg.mpr b2]
      · rw [ex_split 1]
        show goOn (execs ((lp__law_powers_1.drop 7).take 1) _) _ = _
        rw [mk, goOn_nx]
        unfold e15
        by_cases s0 : 0 < size
        · have q1 : ¬ (w2 % 3 = 1) := fun z => q0 ⟨s0, z⟩
          have s0' : (0 : Int) < size := by omega
          simp [lp__law_powers_1, ml, c2, m3, s0, s0', q1]
        · have s1 : size = 0 := by omega
          subst s1
          simp [lp__law_powers_1]
  have r0 := Int.emod_nonneg (w0 / 3) (b := people) (by omega)
  have r1 := Int.emod_lt_of_pos (w0 / 3) (b := people) (by omega)
  refine ⟨(w0 / 3 % people, kind, need, act), some (.frz, .int need), some (.frz, .str kind), some (.frz, .int body), some (.frz, acD act), ⟨?_, plain_of (n := n) (size := size) hki hal⟩, ?_⟩
  · have hk2 : okKi kind = true := by rcases hki with rfl | rfl <;> rfl
    unfold okPow
    simp [r0, r1, hk2, ok_rg.mpr hn, ha]
  · rw [et, ex_split 3, e1, goOn_nx, ex_split 2, e2, goOn_nx, List.drop_drop, ex_split 2]
    show goOn (execs ((lp__law_powers_1.drop 5).take 2) _) _ = _
    rw [e3, goOn_nx, List.drop_drop, ex_split 2]
    show goOn (execs ((lp__law_powers_1.drop 7).take 2) _) _ = _
    rw [e4, goOn_nx, List.drop_drop]
    unfold e15 pwD acD
    show execs [_] _ = _
    simp [ml, c0, d3, mp, z4, ownL_eq, lp, zl]
theorem powers_ok {a c size : Nat} (h : ns.length ≤ 63) (h1 : 1 ≤ n) (h4 : n ≤ 4) (hpe : 1 ≤ people ∧ people ≤ 1000) (hs : size ≤ 1000) (ha : a ≤ 100) (hc : c ≤ 20) :
    ∃ pws : List Pow, pws.length = c ∧ (∀ p ∈ pws, okPow n size people p = true ∧ Plain p) ∧ _law_powers [(.frz, .scr ns), (.frz, .int a), (.frz, .int n), (.frz, .int size), (.frz, .int people), (.frz, .int c)] = .ok (.own, .lst (pwL pws)) := by
  obtain ⟨ks, hk, bk, ek⟩ := numbers_eq (a := a) (c := 4 * c) (r := 840) h (by omega) (by omega) (by decide) (by decide)
  obtain ⟨dr, hd, bd, ed⟩ := numbers_eq (a := a + 1) (c := 4 * c) (r := tp n) h (by omega) (by omega) (tp_pos n) (tp_lt (by omega))
  have loop := for_ind (bindf := fun d env => bindT (.nm 10) d env) (body := fun env => execs lp__law_powers_1 env) (fg := [10, 11, 12, 13, 14]) (items := rngL 0 c)
    (env := e15 ns a n size people c ks dr (some (.own, .lst [])) none none none none none)
    (Q := fun o => ∃ pws : List Pow, pws.length = c ∧ (∀ p ∈ pws, okPow n size people p = true ∧ Plain p) ∧ o = .nx (e15 ns a n size people c ks dr (some (.own, .lst (pwL pws))) none none none none none))
    (P := fun i e => ∃ pws : List Pow, pws.length = i ∧ (∀ p ∈ pws, okPow n size people p = true ∧ Plain p) ∧ e = e15 ns a n size people c ks dr (some (.own, .lst (pwL pws))) none none none none none)
    (fun i d e hi hP => by
      obtain ⟨pws, hl, hp, rfl⟩ := hP
      obtain ⟨hi2, rfl⟩ := rngL_get hi
      obtain ⟨p, x11, x12, x13, x14, kp, st⟩ := powers_step (ns := ns) (a := a) h1 h4 hpe hs hd hk bd bk hi2 (by omega) hl
      refine ⟨_, r_bT, .inl ⟨_, .inl (by rw [r_sS, Int.zero_add]; exact st), pws ++ [p], by simp [hl], fun z hz => ?_, rfl⟩⟩
      rcases List.mem_append.mp hz with hz | hz
      · exact hp z hz
      · simp at hz; rw [hz]; exact kp)
    (fun e hP => by
      obtain ⟨pws, hl, hp, rfl⟩ := hP
      exact ⟨pws, by simpa using hl, hp, rfl⟩)
    ⟨[], rfl, (by simp), rfl⟩
  obtain ⟨pws, hl, hp, he⟩ := loop
  refine ⟨pws, hl, hp, ?_⟩
  unfold _law_powers
  rw [runDef_eq (by rfl)]
  have ml : binI .mul 4 (c : Int) = .ok (4 * (c : Int)) := mulB (by decide)
  have s1 := shl_n (n := n) (by omega)
  have s2 := shl_tp (n := n) (by omega)
  have l62 : lim62 (c : Int) = true := lim62_t (by omega) (by omega)
  have zz : sizeL ≠ 0 := by show (16777216 : Nat) ≠ 0; decide
  unfold e15 at he
  simp at ed ek he
  simp [b__law_powers, ml, s1, s2, ed, ek, zz, l62, he]
end
end Law

namespace Law
open Fx
section
variable {ns : List Int} {n : Nat} {ps : List (Int × Int)} {people : Int} {pws : List Pow}
/-- an act that is wrong -/
def badActs (n size : Nat) : List Act := [("makes", [0, 0]), ("make", [0]), ("make", [tp n, 0]), ("make", [0, -1]), ("strike", [(size : Int)]), ("strike", [-1]), ("strike", [0, 0]), ("make", [0, 0, 0]), ("make", [-1, 0]), ("make", [0, tp n]), ("strike", [])]
theorem bad_acts {size : Nat} : ∀ a ∈ badActs n size, okAct n size a = false ∧ a.2.length ≤ 4000 := by
  have t1 : okP n (tp n) = false := by unfold okP; simp
  have t2 : okP n (-1) = false := by unfold okP; simp
  intro a ha
  simp only [badActs, List.mem_cons, List.not_mem_nil, or_false] at ha
  have ms : ¬ (wStrike = wMake) := by decide
  have mk : ¬ (("makes" : PySem.Str) = wMake) := by decide
  have mk2 : ¬ (("makes" : PySem.Str) = wStrike) := by decide
  have e1 : ("make" : PySem.Str) = wMake := rfl
  have e2 : ("strike" : PySem.Str) = wStrike := rfl
  rw [e1, e2] at ha
  rcases ha with rfl | rfl | rfl | rfl | rfl | rfl | rfl | rfl | rfl | rfl | rfl <;> (refine ⟨?_, by simp⟩; unfold okAct; simp [ms, mk, mk2, t1, t2])
theorem spoiled_ok {size : Nat} {p : Pow} {way : Int} (hp : Plain p) (h1 : 1 ≤ n) (h4 : n ≤ 4) (hw : 0 ≤ way ∧ way < 17) :
    ∃ p' : Pow, Plain p' ∧ okPow n size people p' = false ∧ _law_spoiled [(.frz, .int n), (.frz, .int size), (.frz, .int people), (.frz, pwD p), (.frz, .int way)] = .ok (.frz, pwD p') := by
  obtain ⟨pe, k, need, act⟩ := p
  have s1 := shl_n (n := n) (by omega)
  have s2 := shl_tp (n := n) (by omega)
  have z1 := szB (n := 1) (by decide)
  have z2 := szB (n := 2) (by decide)
  have z3 := szB (n := 3) (by decide)
  have z4 := szB (n := 4) (by decide)
  have z5 := szB (n := 5) (by decide)
  have z6 := szB (n := 6) (by decide)
  have z11 := szB (n := 11) (by decide)
  have i0 : atIx [D.int pe, .str k, .int need, acD act] 0 = some (.int pe) := rfl
  have i1 : atIx [D.int pe, .str k, .int need, acD act] 1 = some (.str k) := rfl
  have i2 : atIx [D.int pe, .str k, .int need, acD act] 2 = some (.int need) := rfl
  have i3 : atIx [D.int pe, .str k, .int need, acD act] 3 = some (acD act) := rfl
  unfold _law_spoiled
  rw [runDef_eq (by rfl)]
  by_cases c1 : way < 11
  · have el : [D.tup [.str "makes", .int 0, .int 0], .tup [.str "make", .int 0], .tup [.str "make", .int (tp n), .int 0], .tup [.str "make", .int 0, .int (-1)], .tup [.str "strike", .int size], .tup [.str "strike", .int (-1)], .tup [.str "strike", .int 0, .int 0], .tup [.str "make", .int 0, .int 0, .int 0], .tup [.str "make", .int (-1), .int 0], .tup [.str "make", .int 0, .int (tp n)], .tup [.str "strike"]] = (badActs n size).map acD := rfl
    obtain ⟨d, hd, ed⟩ := pick (xs := (badActs n size).map acD) (i := way) hw.1 (by simpa [badActs] using c1)
    obtain ⟨a, ha, rfl⟩ := List.mem_map.mp hd
    obtain ⟨b1, b2⟩ := bad_acts (n := n) (size := size) a ha
    refine ⟨(pe, k, need, a), ⟨hp.1, b2⟩, ?_, ?_⟩
    · unfold okPow
      simp [b1]
    · unfold acD at ed
      unfold pwD acD at *
      rw [← el] at ed
      simp [b__law_spoiled, s1, s2, z1, z2, z3, z4, z5, z6, z11, c1, i0, i1, i2, ed]
  · by_cases c2 : way = 11
    · subst c2
      refine ⟨(people, k, need, act), hp, ?_, ?_⟩
      · unfold okPow; simp
      · unfold pwD acD at *
        simp [b__law_spoiled, s1, s2, z1, z2, z3, z4, z5, z6, z11, i1, i2, i3]
    · by_cases c3 : way = 12
      · subst c3
        refine ⟨(-1, k, need, act), hp, ?_, ?_⟩
        · unfold okPow; simp
        · unfold pwD acD at *
          simp [b__law_spoiled, s1, s2, z1, z2, z3, z4, z5, z6, z11, i1, i2, i3]
      · by_cases c4 : way < 15
        · obtain ⟨kk, hkk, ek⟩ : ∃ kk : PySem.Str, (kk = "So" ∨ kk = "due ") ∧ atIx [D.str "So", .str "due "] (way - 13) = some (.str kk) := by
            rcases (show way = 13 ∨ way = 14 by omega) with rfl | rfl
            · exact ⟨"So", .inl rfl, rfl⟩
            · exact ⟨"due ", .inr rfl, rfl⟩
          have bk : okKi kk = false := by rcases hkk with rfl | rfl <;> rfl
          refine ⟨(pe, kk, need, act), ⟨by show (D.str kk).cmpOk = true; rcases hkk with rfl | rfl <;> decide +kernel, hp.2⟩, ?_, ?_⟩
          · unfold okPow; simp [bk]
          · unfold pwD acD at *
            simp [b__law_spoiled, s1, s2, z1, z2, z3, z4, z5, z6, z11, c1, c2, c3, c4, i0, i1, i2, i3, ek]
        · obtain ⟨nn, hnn, ek⟩ : ∃ nn : Int, okP n nn = false ∧ atIx [D.int (-1), .int (tp n)] (way - 15) = some (.int nn) := by
            rcases (show way = 15 ∨ way = 16 by omega) with rfl | rfl
            · exact ⟨-1, by unfold okP; simp, rfl⟩
            · exact ⟨tp n, by unfold okP; simp, rfl⟩
          refine ⟨(pe, k, nn, act), hp, ?_, ?_⟩
          · unfold okPow; simp [hnn]
          · unfold pwD acD at *
            simp [b__law_spoiled, s1, s2, z1, z2, z3, z4, z5, z6, z11, c1, c2, c3, c4, i0, i1, i2, i3, ek]
end
end Law

namespace Law
open Fx
theorem r_slTp {xs : List D} {lo hi : Option Int} : sliceOp (.tup xs) lo hi = .ok (.frz, .tup (cutL xs lo hi)) := rfl
def gxO : Option (Option Val) → R (Nat × List D)
  | some (some (.frz, .exc C fs)) => .ok (C, fs)
  | _ => .no
theorem getX_eq {env : Env} {i : Nat} : getX env i = gxO env[i]? := by
  unfold getX gxO
  cases env[i]? with
  | none => rfl
  | some o => cases o with
    | none => rfl
    | some mv => obtain ⟨m, d⟩ := mv; cases m <;> cases d <;> rfl
@[simp] theorem gxO_exc {C : Nat} {fs : List D} : gxO (some (some (.frz, .exc C fs))) = .ok (C, fs) := id rfl
/-! ghosts -/
theorem gX {env : Env} {i C : Nat} {fs : List D} (h : env[i]? = some (some (.frz, .exc C fs))) : getX env i = .ok (C, fs) := by unfold getX; rw [h]
theorem eqB3 (a b c a' b' c' : Bool) : cmpop .eq (.lst [.bl a, .bl b, .bl c]) (.lst [.bl a', .bl b', .bl c']) = .ok (a == a' && (b == b' && c == c')) := by
  cases a <;> cases b <;> cases c <;> cases a' <;> cases b' <;> cases c' <;> rfl
theorem cut_anyT {α : Type} {xs : List α} {m : Nat} : cutL xs none (some (m : Int)) = xs.take m := by
  have e2 : clip xs.length xs.length (some (m : Int)) = min m xs.length := by
    unfold clip
    simp
  have e1 : clip xs.length 0 none = 0 := rfl
  unfold cutL
  simp only [e1, e2, List.drop_zero, Nat.sub_zero]
  rw [← List.take_take, List.take_length]
theorem cut_anyF {α : Type} {xs : List α} {m : Nat} : cutL xs (some (m : Int)) none = xs.drop m := by
  have e1 : clip xs.length 0 (some (m : Int)) = min m xs.length := by
    unfold clip
    simp
  have e2 : clip xs.length xs.length none = xs.length := rfl
  unfold cutL
  simp only [e1, e2]
  by_cases h : m ≤ xs.length
  · rw [Nat.min_eq_left h, List.take_of_length_le (by simp)]
  · rw [Nat.min_eq_right (by omega), List.drop_of_length_le (show xs.length ≤ m by omega), List.drop_length]
    simp
def errW : Option (Nat × List D) → D
  | none => .tup [.str "made", .int 0]
  | some (2, [d]) => .tup [.str "many", d]
  | some (1, [d]) => .tup [.str "count", d]
  | some (4, [d]) => .tup [.str "power", d]
  | _ => .tup [.str "other", .int 0]
section
variable {ns : List Int} {n : Nat} {ps : List (Int × Int)} {people : Int} {pws : List Pow}
theorem err_cases (n size : Nat) (people : Int) (pws : List Pow) : cdErr n size people pws = none ∨ ∃ C x, (C = 1 ∨ C = 2 ∨ C = 4) ∧ cdErr n size people pws = some (C, [.int x]) := by
  unfold cdErr
  by_cases h1 : 9 < size
  · rw [if_pos h1]; exact .inr ⟨2, _, .inr (.inl rfl), rfl⟩
  rw [if_neg h1]
  by_cases h2 : ¬ (1 ≤ people ∧ people ≤ 5)
  · rw [if_pos h2]; exact .inr ⟨1, _, .inl rfl, rfl⟩
  rw [if_neg h2]
  by_cases h3 : 7 < pws.length
  · rw [if_pos h3]; exact .inr ⟨2, _, .inr (.inl rfl), rfl⟩
  rw [if_neg h3]
  cases pws.findIdx? (fun p => !okPow n size people p) with
  | none => exact .inl rfl
  | some i => exact .inr ⟨4, _, .inr (.inr rfl), rfl⟩
theorem tried_eq (hn : n ≤ 5) (hl : ps.length ≤ 4096) (hp : ∀ p ∈ pws, Plain p) (hq : pws.length ≤ 4000) : _law_tried [(.frz, bkD n ps), (.frz, .int people), (.bor, .lst (pwL pws))] = .ok (.frz, errW (cdErr n ps.length people pws)) := by
  have q := code_init (people := people) hn hl hp hq (m := .bor) (d := .lst (pwL pws)) ⟨.inr rfl, .inl rfl⟩
  unfold _law_tried
  rw [runDef_eq (by rfl)]
  have z2 := szB (n := 2) (by decide)
  have z3 := szB (n := 3) (by decide)
  unfold cdD bkD at *
  rcases err_cases n ps.length people pws with h | ⟨C, x, hC, h⟩
  · rw [h] at q ⊢
    simp [b__law_tried, q, errW, z2, catchO]
  · rw [h] at q ⊢
    rcases hC with rfl | rfl | rfl
    · simp [b__law_tried, q, errW, z2, z3, catchO, List.lookup, getX_eq, eqB3, goneO]
    · simp [b__law_tried, q, errW, z2, z3, catchO, List.lookup, getX_eq, eqB3, goneO]
    · simp [b__law_tried, q, errW, z2, z3, catchO, List.lookup, getX_eq, eqB3, goneO]
theorem pwL_sm : ∀ pws : List Pow, (∀ p ∈ pws, p.2.2.2.2.length ≤ 4000) → smL (pwL pws) = true ∧ D.depL (pwL pws) ≤ 2
  | [], _ => ⟨rfl, by show 0 ≤ 2; decide⟩
  | p :: pws, h => by
    have ih := pwL_sm pws fun q hq => h q (by simp [hq])
    have hp := h p (by simp)
    have key : ∀ s : List Int, smL (intL s) = true ∧ D.depL (intL s) = 0 := by
      intro s
      induction s with
      | nil => exact ⟨rfl, rfl⟩
      | cons x s ih => unfold intL at *; simp [smL, sm, D.depL, D.dep, ih.1, ih.2]
    have k1 : sm (pwD p) = true ∧ (pwD p).dep ≤ 2 := by
      unfold pwD acD
      have k := key p.2.2.2.2
      simp [sm, smL, D.dep, D.depL, k.1, k.2, intL_len]
      omega
    show (sm (pwD p) && smL (pwL pws)) = true ∧ max (pwD p).dep (D.depL (pwL pws)) ≤ 2
    rw [k1.1, ih.1]
    exact ⟨rfl, by omega⟩
theorem code_size (hq : pws.length ≤ 4000) : Code_size [(.frz, cdD n ps people pws)] = .ok (.frz, .int pws.length) := by
  unfold Code_size
  rw [runDef_eq (by rfl)]
  have z := szB (n := pws.length) (by omega)
  unfold cdD
  simp [b_Code_size, pwL_len, z]
theorem is_code_eq (hl : ps.length ≤ 4000) (hp : ∀ p ∈ pws, Plain p) (hq : pws.length ≤ 4000) {m : Mode} (hm : m = .frz ∨ m = .bor) : _law_is_code [(.frz, cdD n ps people pws), (.frz, .int n), (.frz, .lst (psD ps)), (.frz, .int people), (m, .lst (pwL pws))] = .ok (.frz, .bl true) := by
  unfold _law_is_code
  rw [runDef_eq (by rfl)]
  have hta : toArg (m, .lst (pwL pws)) = (m, .lst (pwL pws)) := by rcases hm with rfl | rfl <;> rfl
  have hrd : rdO (some (some (m, .lst (pwL pws)))) = .ok (m, .lst (pwL pws)) := by rcases hm with rfl | rfl <;> rfl
  have hpas : pas (m, .lst (pwL pws)) = (m, .lst (pwL pws)) := by rcases hm with rfl | rfl <;> rfl
  have cs := code_size (n := n) (ps := ps) (people := people) hq
  have z := szB (n := pws.length) (by omega)
  have k1 := psD_sm ps
  have k2 := pwL_sm pws fun p h => (hp p h).2
  have s1 := same4 (d := .tup (psD ps)) (by simp [sm, k1.1, psD_len]; omega) (by simp only [D.dep]; omega)
  have s2 := same4 (d := .tup (pwL pws)) (by simp [sm, k2.1, pwL_len]; omega) (by simp only [D.dep]; omega)
  have si := fun i : Int => same4 (d := .int i) rfl (by show 0 < 6; decide)
  unfold cdD bkD at *
  simp [b__law_is_code, hta, hrd, hpas, ofTy, s1, s2, si, cs, pwL_len, z]
theorem in_it (w : Int) (l : List Int) : cmpop .inn (.int w) (.tup (intL l)) = .ok (decide (w ∈ l)) := by
  have hk : ∀ s : List Int, D.datL (intL s) = true ∧ D.depL (intL s) = 0 := by
    intro s
    induction s with
    | nil => exact ⟨rfl, rfl⟩
    | cons x s ih => unfold intL at *; simp [D.datL, D.dat, D.depL, D.dep, ih.1, ih.2]
  have c : (D.tup (intL l)).cmpOk = true := by
    have h := hk l
    simp [D.cmpOk, D.dat, D.dep, h.1, h.2]
  have a : ((intL l).any fun z => D.eqv z (.int w)) = decide (w ∈ l) := by
    clear c
    induction l with
    | nil => rfl
    | cons a l ih =>
      have e : D.eqv (.int a) (.int w) = decide (a = w) := rfl
      show (D.eqv (.int a) (.int w) || (intL l).any fun z => D.eqv z (.int w)) = _
      rw [e, ih]
      by_cases h : a = w
      · subst h; simp
      · have h2 : ¬ w = a := fun z => h z.symm
        simp [h, h2]
  have e : cmpop .inn (.int w) (.tup (intL l)) = inOp (.int w) (.tup (intL l)) := rfl
  have c2 : (D.int w).cmpOk = true := rfl
  rw [e]
  unfold inOp
  simp only [c, c2, Bool.and_self, if_true, a]
def dfP : Pow := (0, wSo, 0, (wMake, []))
def heldM (pws : List Pow) (g : List Int) : List Nat := (List.range pws.length).filter fun k => decide ((pws[k]?.getD dfP).1 ∈ g)
theorem enum_eq (pws : List Pow) : enumL (pwL pws) = (List.range pws.length).map fun k : Nat => D.tup [.int (k : Int), pwD (pws[k]?.getD dfP)] := by
  apply List.ext_getElem?
  intro k
  by_cases hk : k < pws.length
  · rw [List.getElem?_map, List.getElem?_range hk]
    unfold enumL pwL
    rw [List.getElem?_mapIdx, List.getElem?_map]
    simp [List.getElem?_eq_getElem hk]
  · rw [List.getElem?_eq_none (by simp [enumL, pwL]; omega), List.getElem?_eq_none (by simp; omega)]
theorem held_eq {g : List Int} (hq : pws.length ≤ 4000) : Code_held_by [(.frz, cdD n ps people pws), (.frz, .tup (intL g))] = .ok (.frz, .tup ((heldM pws g).map fun k : Nat => D.int (k : Int))) := by
  unfold Code_held_by
  rw [runDef_eq (by rfl)]
  have q := lc_gen (bindf := fun d => bindT (.tp [(.nm 2), (.nm 3)]) d (wipeE [some (.frz, cdD n ps people pws), some (.frz, .tup (intL g)), none, none] [2, 3])) (test := fun e => noEx (evalIfs [(.cmp .inn (.ix (.var 3) (.cint 0)) (.var 1))] e)) (elt := fun e => noEx ((eval (.var 2) e).bind fun v => esc v))
    (fun k : Nat => D.tup [.int (k : Int), pwD (pws[k]?.getD dfP)]) (fun k => decide ((pws[k]?.getD dfP).1 ∈ g)) (fun k : Nat => D.int (k : Int)) (List.range pws.length) fun k hk => by
      generalize pws[k]?.getD dfP = p
      have ni := in_it p.1 g
      have i0 : atIx [D.int p.1, .str p.2.1, .int p.2.2.1, acD p.2.2.2] 0 = some (.int p.1) := rfl
      unfold cdD pwD
      exact ⟨_, by simp; rfl, by simp [i0, ni], fun _ => by simp⟩
  rw [← enum_eq] at q
  have e : (List.range pws.length).filter (fun k => decide ((pws[k]?.getD dfP).1 ∈ g)) = heldM pws g := rfl
  rw [e] at q
  have zl := szB (n := (heldM pws g).length) (by
    have := List.length_filter_le (fun k => decide ((pws[k]?.getD dfP).1 ∈ g)) (List.range pws.length)
    rw [List.length_range] at this
    unfold heldM
    omega)
  unfold cdD at *
  simp at q
  simp [b_Code_held_by, q, zl]
theorem with_eq (hn : n ≤ 5) (hl : ps.length ≤ 4096) (hp : ∀ p ∈ pws, Plain p) (hq : pws.length ≤ 3999) {p : Pow} (h : Plain p) : Code_with_power [(.frz, cdD n ps people pws), (.frz, pwD p)] = match cdErr n ps.length people (pws ++ [p]) with
      | some (C, fs) => .ex C fs
      | none => .ok (.own, cdD n ps people (pws ++ [p])) := by
  have e : pwL (pws ++ [p]) = pwL pws ++ [pwD p] := by simp [pwL]
  have q := code_init (people := people) (pws := pws ++ [p]) hn hl (fun x hx => by
    rcases List.mem_append.mp hx with h1 | h1
    · exact hp x h1
    · simp at h1; subst h1; exact h) (by simp; omega) (m := .frz) (d := .lst (pwL (pws ++ [p]))) ⟨.inl rfl, .inl rfl⟩
  have z := szB (n := pws.length + 1) (by omega)
  unfold Code_with_power
  rw [runDef_eq (by rfl)]
  rw [e] at q
  generalize hE : cdErr n ps.length people (pws ++ [p]) = E at *
  unfold cdD at *
  rw [e] at *
  unfold bkD pwD at *
  rcases E with _ | ⟨C, fs⟩
  · simp [b_Code_with_power, pwL_len, z, q]
  · simp [b_Code_with_power, pwL_len, z, q]
theorem without_eq (hn : n ≤ 5) (hl : ps.length ≤ 4096) (hp : ∀ p ∈ pws, Plain p) (hq : pws.length ≤ 3999) {k : Nat} (hk : k < pws.length) (hok : cdErr n ps.length people (pws.take k ++ pws.drop (k + 1)) = none) : Code_without_power [(.frz, cdD n ps people pws), (.frz, .int k)] = .ok (.own, cdD n ps people (pws.take k ++ pws.drop (k + 1))) := by
  have e : pwL (pws.take k ++ pws.drop (k + 1)) = (pwL pws).take k ++ (pwL pws).drop (k + 1) := by simp [pwL]
  have q := code_init (people := people) (pws := pws.take k ++ pws.drop (k + 1)) hn hl (fun x hx => by
    rcases List.mem_append.mp hx with h1 | h1
    · exact hp x (List.mem_of_mem_take h1)
    · exact hp x (List.mem_of_mem_drop h1)) (by simp; omega) (m := .frz) (d := .tup (pwL (pws.take k ++ pws.drop (k + 1)))) ⟨.inl rfl, .inr rfl⟩
  have c1 : cutL (pwL pws) none (some (k : Int)) = (pwL pws).take k := cut_anyT
  have c2 : cutL (pwL pws) (some ((k : Int) + 1)) none = (pwL pws).drop (k + 1) := by rw [show (k : Int) + 1 = ((k + 1 : Nat) : Int) from rfl]; exact cut_anyF
  have l1 : ((pwL pws).take k).length = k := by rw [List.length_take, pwL_len]; omega
  have l2 : ((pwL pws).drop (k + 1)).length = pws.length - (k + 1) := by rw [List.length_drop, pwL_len]
  have z1 := szB (n := k) (by omega)
  have z2 := szB (n := pws.length - (k + 1)) (by omega)
  have z3 := szB (n := k + (pws.length - (k + 1))) (by omega)
  unfold Code_without_power
  rw [runDef_eq (by rfl)]
  rw [hok] at q
  unfold cdD at *
  rw [e] at *
  generalize (pwL pws).take k = A at *
  generalize (pwL pws).drop (k + 1) = B at *
  generalize pwL pws = C at *
  unfold bkD at *
  simp [b_Code_without_power, r_slTp, c1, c2, l1, l2, z1, z2, z3, q]
end
end Law

namespace Law
open Fx
section
variable {ns : List Int} {n size : Nat} {ps : List (Int × Int)} {people : Int} {pws : List Pow}
theorem same_bb {xs : List D} (hs : sm (.lst xs) = true) (hd : (D.lst xs).dep < 6) : _law_same [(.bor, .lst xs), (.bor, .lst xs)] = .ok (.frz, .bl true) := by
  have e6 : _law_same = r__law_same (5 + 1) := rfl
  rw [e6]
  show runDef 2 3 (b__law_same (r__law_same 5)) _ = _
  rw [runDef_eq (by rfl)]
  simp only [sm, Bool.and_eq_true, decide_eq_true_eq] at hs
  simp only [D.dep] at hd
  have hz := szn hs.1
  have l62 : lim62 (xs.length : Int) = true := lim62_t (by omega) (by omega)
  have q : lcLoop (fun d => bindT (.nm 2) d (wipeE [some (.bor, .lst xs), some (.bor, .lst xs), none] [2])) (fun e => noEx (evalIfs [] e)) (fun e => noEx ((eval (.call "_law_same" (r__law_same 5) [(.ix (.var 0) (.var 2)), (.ix (.var 1) (.var 2))]) e).bind fun v => esc v)) (rngL 0 xs.length) = .ok (((rngL 0 xs.length).filter fun _ => true).map fun _ => .bl true) := by
    refine lc_map (fun _ => true) (fun _ => .bl true) _ fun d hdm => ?_
    obtain ⟨i, hi, rfl⟩ := rngL_mem hdm
    have e : xs[i]? = some xs[i] := List.getElem?_eq_getElem hi
    have q := same_refl 5 xs[i] (smL_get hs.2 e) (Nat.lt_of_le_of_lt (depL_get e) (by omega))
    refine ⟨_, r_bT, by rw [r_if0]; rfl, fun _ => ?_⟩
    simp [atIx_nat, e, q]
  have h2 := szn (n := xs.length) hs.1
  simp only [all_true] at q
  simp [b__law_same, ofTy, hz, l62] at q ⊢
  rw [q]
  simp [h2, boolsOf_map]
/-- the first wrong one -/
def firstW : List Nat → Option Nat
  | [] => none
  | [a, b] => some (min a b)
  | _ => none
def wrL (w : List Nat) : List D := w.map fun k : Nat => D.int (k : Int)
theorem expected_eq {w : List Nat} (hw : w = [] ∨ ∃ a b, w = [a, b]) (hq : pws.length ≤ 4000) (hsz : size ≤ 4000) (hf : 1 ≤ people → people ≤ 5 → pws.findIdx? (fun p => !okPow n size people p) = firstW w) :
    _law_expected [(.frz, .int size), (.frz, .int people), (.bor, .lst (pwL pws)), (.frz, .lst (wrL w))] = .ok (.frz, errW (cdErr n size people pws)) := by
  unfold _law_expected cdErr
  rw [runDef_eq (by rfl)]
  have z2 := szB (n := 2) (by decide)
  have zz : sizeL ≠ 0 := by show (16777216 : Nat) ≠ 0; decide
  have z := szB (n := pws.length) (by omega)
  by_cases h1 : 9 < size
  · have h1' : (9 : Int) < size := by omega
    simp [b__law_expected, h1, h1', z2, errW]
  · have h1' : ¬ (9 : Int) < size := by omega
    by_cases h2 : 1 ≤ people
    · by_cases h3 : people ≤ 5
      · by_cases h4 : 7 < pws.length
        · have h4' : (7 : Int) < pws.length := by omega
          simp [b__law_expected, h1, h1', h2, h3, h4, h4', pwL_len, z, z2, errW]
        · have h4' : ¬ (7 : Int) < pws.length := by omega
          rw [hf h2 h3]
          rcases hw with rfl | ⟨a, b, rfl⟩
          · have e0 : wrL [] = [] := rfl
            rw [e0]
            simp [b__law_expected, h1, h1', h2, h3, h4, h4', pwL_len, z, z2, zz, errW, firstW]
          · have e0 : wrL [a, b] = [.int a, .int b] := rfl
            rw [e0]
            have mn : minS [(.frz, .lst [.int (a : Int), .int (b : Int)])] = .ok (.frz, .int ((min a b : Nat) : Int)) := by
              have e : minS [(.frz, .lst [.int (a : Int), .int (b : Int)])] = .ok (.frz, .int (minL (a : Int) [(b : Int)])) := rfl
              rw [e]
              congr 3
              unfold minL
              simp only [List.foldl]
              omega
            simp [b__law_expected, h1, h1', h2, h3, h4, h4', pwL_len, z, z2, zz, errW, firstW, mn]
      · simp [b__law_expected, h1, h1', h2, h3, z2, errW]
    · simp [b__law_expected, h1, h1', h2, z2, errW]
/-- all powers right -/
theorem err_none (h1 : ps.length ≤ 9) (h2 : 1 ≤ people ∧ people ≤ 5) (h3 : pws.length ≤ 7) (h : ∀ p ∈ pws, okPow n ps.length people p = true) : cdErr n ps.length people pws = none := by
  have e : pws.findIdx? (fun p => !okPow n ps.length people p) = none := by
    rw [List.findIdx?_eq_none_iff]
    intro p hp
    rw [h p hp]
    rfl
  unfold cdErr
  rw [if_neg (by omega), if_neg (by simpa using h2), if_neg (by omega), e]
theorem more_eq (h1 : 1 ≤ n) (h4 : n ≤ 4) (hl : ps.length ≤ 9) (hpe : 1 ≤ people ∧ people ≤ 5) (hp : ∀ p ∈ pws, okPow n ps.length people p = true ∧ Plain p) (hq : pws.length ≤ 7) {more bad : Pow} (hm : okPow n ps.length people more = true ∧ Plain more) (hb : okPow n ps.length people bad = false ∧ Plain bad) :
    _law_more [(.frz, cdD n ps people pws), (.frz, .int n), (.frz, .lst (psD ps)), (.frz, .int people), (.bor, .lst (pwL pws)), (.frz, pwD more), (.frz, pwD bad)] = .ok (.frz, .bl true) := by
  have w1 := with_eq (n := n) (people := people) (by omega) (by omega) (fun p h => (hp p h).2) (by omega) hm.2 (ps := ps)
  have w2 := with_eq (n := n) (people := people) (by omega) (by omega) (fun p h => (hp p h).2) (by omega) hb.2 (ps := ps)
  have z := szB (n := pws.length) (by omega)
  have z1 := szB (n := 1) (by decide)
  have zp := szB (n := pws.length + 1) (by omega)
  unfold _law_more
  rw [runDef_eq (by rfl)]
  by_cases h7 : pws.length = 7
  · have e : cdErr n ps.length people (pws ++ [more]) = some (2, [.int 7]) := by
      unfold cdErr
      rw [if_neg (by omega), if_neg (by simpa using hpe), if_pos (by simp; omega)]
    rw [e] at w1
    have z7 := szB (n := 7) (by decide)
    have h7' : ((pws.length : Nat) : Int) = 7 := by omega
    unfold cdD bkD pwD acD at *
    simp [b__law_more, pwL_len, h7, z7, w1, catchO, List.lookup, getX_eq, goneO]
  · have e : cdErr n ps.length people (pws ++ [more]) = none := err_none hl hpe (by simp; omega) (fun p h => by
      rcases List.mem_append.mp h with h | h
      · exact (hp p h).1
      · simp at h; subst h; exact hm.1)
    have e2 : cdErr n ps.length people (pws ++ [bad]) = some (4, [.int pws.length]) := by
      have ef : (pws ++ [bad]).findIdx? (fun p => !okPow n ps.length people p) = some pws.length := by
        rw [List.findIdx?_append]
        have : pws.findIdx? (fun p => !okPow n ps.length people p) = none := by
          rw [List.findIdx?_eq_none_iff]
          intro p h
          rw [(hp p h).1]
          rfl
        rw [this]
        simp [List.findIdx?_cons, hb.1]
      unfold cdErr
      rw [if_neg (by omega), if_neg (by simpa using hpe), if_neg (by simp; omega), ef]
    rw [e] at w1
    rw [e2] at w2
    have ic := is_code_eq (n := n) (ps := ps) (people := people) (pws := pws ++ [more]) (m := .frz) (by omega) (fun p h => by
      rcases List.mem_append.mp h with h | h
      · exact (hp p h).2
      · simp at h; subst h; exact hm.2) (by simp; omega) (.inl rfl)
    have ea : pwL (pws ++ [more]) = pwL pws ++ [pwD more] := by simp [pwL]
    have h7' : ¬ ((pws.length : Nat) : Int) = 7 := by omega
    unfold cdD at *
    rw [ea] at ic w1
    unfold bkD pwD acD at *
    simp [b__law_more, pwL_len, h7, h7', z, z1, zp, w1, ic, w2, catchO, List.lookup, getX_eq, goneO]
end
end Law

namespace Law
open Fx
section
variable {ns : List Int} {n : Nat} {ps : List (Int × Int)} {people : Int} {pws : List Pow}
def e20 (ns : List Int) (n size pe many : Nat) (ps : List (Int × Int)) (x6 : Option Val) (sp : Pow) (way : Int) (x9 x10 x11 x12 x13 x14 x15 x16 x17 x18 x19 : Option Val) : Env := [some (.frz, .scr ns), some (.frz, .int n), some (.frz, .int size), some (.frz, .int pe), some (.frz, .int many), some (.frz, .lst (psD ps)), x6, some (.frz, pwD sp), some (.frz, .int way), x9, x10, x11, x12, x13, x14, x15, x16, x17, x18, x19]
theorem b8' (x : Int) : 0 ≤ x % 8 ∧ x % 8 < 8 := ⟨Int.emod_nonneg x (by decide), Int.emod_lt_of_pos x (by decide)⟩
theorem stage1 (h : ns.length ≤ 63) : ∃ (n size pe many : Nat) (ps : List (Int × Int)) (pws : List Pow) (sp : Pow) (way : Int), (1 ≤ n ∧ n ≤ 4) ∧ size ≤ 12 ∧ pe ≤ 6 ∧ many ≤ 8 ∧ ps.length = size ∧ (∀ p ∈ ps, okP n p.1 = true ∧ okP n p.2 = true) ∧ pws.length = many ∧ (∀ p ∈ pws, (1 ≤ pe → okPow n size (pe : Int) p = true) ∧ Plain p) ∧ ((1 ≤ pe → okPow n size (pe : Int) sp = true) ∧ Plain sp) ∧ (0 ≤ way ∧ way < 17) ∧
    execs (b_law.take 9) [some (.frz, .scr ns), none, none, none, none, none, none, none, none, none, none, none, none, none, none, none, none, none, none, none] =
      .nx (e20 ns n size pe many ps (some (.own, .lst (pwL pws))) sp way (some (.frz, .lst [])) none none none none none none none none none none) := by
  have m4 : ∀ x : Int, binI .mod x 4 = .ok (x % 4) := fun x => binI_mod (by decide)
  have m8 : ∀ x : Int, binI .mod x 8 = .ok (x % 8) := fun x => binI_mod (by decide)
  have m17 : ∀ x : Int, binI .mod x 17 = .ok (x % 17) := fun x => binI_mod (by decide)
  have c0 := cell_eq (ns := ns) (k := 0) h
  have c1 := cell_eq (ns := ns) (k := 1) h
  have c2 := cell_eq (ns := ns) (k := 2) h
  have c3 := cell_eq (ns := ns) (k := 3) h
  have c10 := cell_eq (ns := ns) (k := 10) h
  have z4 := szB (n := 4) (by decide)
  have z8 := szB (n := 8) (by decide)
  obtain ⟨d0, hd0, e0⟩ := pick (xs := [.int 2, .int 3, .int 1, .int 4]) (i := cell ns 0 % 4) (Int.emod_nonneg _ (by decide)) (by simpa using Int.emod_lt_of_pos (cell ns 0) (b := 4) (by decide))
  obtain ⟨n, hn, rfl⟩ : ∃ n : Nat, (1 ≤ n ∧ n ≤ 4) ∧ d0 = .int n := by
    simp only [List.mem_cons, List.not_mem_nil, or_false] at hd0
    rcases hd0 with rfl | rfl | rfl | rfl
    · exact ⟨2, by decide, rfl⟩
    · exact ⟨3, by decide, rfl⟩
    · exact ⟨1, by decide, rfl⟩
    · exact ⟨4, by decide, rfl⟩
  obtain ⟨d1, hd1, e1⟩ := pick (xs := [.int 3, .int 0, .int 9, .int 5, .int 10, .int 2, .int 12, .int 9]) (b8' (cell ns 1)).1 (by simpa using (b8' (cell ns 1)).2)
  obtain ⟨size, hsz, rfl⟩ : ∃ n : Nat, n ≤ 12 ∧ d1 = .int n := by
    simp only [List.mem_cons, List.not_mem_nil, or_false] at hd1
    rcases hd1 with rfl | rfl | rfl | rfl | rfl | rfl | rfl | rfl
    · exact ⟨3, by decide, rfl⟩
    · exact ⟨0, by decide, rfl⟩
    · exact ⟨9, by decide, rfl⟩
    · exact ⟨5, by decide, rfl⟩
    · exact ⟨10, by decide, rfl⟩
    · exact ⟨2, by decide, rfl⟩
    · exact ⟨12, by decide, rfl⟩
    · exact ⟨9, by decide, rfl⟩
  obtain ⟨d2, hd2, e2⟩ := pick (xs := [.int 3, .int 1, .int 5, .int 2, .int 0, .int 6, .int 4, .int 5]) (b8' (cell ns 2)).1 (by simpa using (b8' (cell ns 2)).2)
  obtain ⟨pe, hpe, rfl⟩ : ∃ n : Nat, n ≤ 6 ∧ d2 = .int n := by
    simp only [List.mem_cons, List.not_mem_nil, or_false] at hd2
    rcases hd2 with rfl | rfl | rfl | rfl | rfl | rfl | rfl | rfl
    · exact ⟨3, by decide, rfl⟩
    · exact ⟨1, by decide, rfl⟩
    · exact ⟨5, by decide, rfl⟩
    · exact ⟨2, by decide, rfl⟩
    · exact ⟨0, by decide, rfl⟩
    · exact ⟨6, by decide, rfl⟩
    · exact ⟨4, by decide, rfl⟩
    · exact ⟨5, by decide, rfl⟩
  obtain ⟨d3, hd3, e3⟩ := pick (xs := [.int 3, .int 5, .int 7, .int 0, .int 8, .int 1, .int 7, .int 2]) (b8' (cell ns 3)).1 (by simpa using (b8' (cell ns 3)).2)
  obtain ⟨many, hmy, rfl⟩ : ∃ n : Nat, n ≤ 8 ∧ d3 = .int n := by
    simp only [List.mem_cons, List.not_mem_nil, or_false] at hd3
    rcases hd3 with rfl | rfl | rfl | rfl | rfl | rfl | rfl | rfl
    · exact ⟨3, by decide, rfl⟩
    · exact ⟨5, by decide, rfl⟩
    · exact ⟨7, by decide, rfl⟩
    · exact ⟨0, by decide, rfl⟩
    · exact ⟨8, by decide, rfl⟩
    · exact ⟨1, by decide, rfl⟩
    · exact ⟨7, by decide, rfl⟩
    · exact ⟨2, by decide, rfl⟩
  obtain ⟨ps, hps, hpp, er⟩ := rules_ok (ns := ns) (n := n) (a := 4) (c := size) h hn.1 hn.2 (by decide) (by omega)
  obtain ⟨pm, hpm, hmx⟩ : ∃ pm : Int, (1 ≤ pm ∧ pm ≤ 1000) ∧ (if (1 : Int) < pe then (pe : Int) else 1) = pm := ⟨_, by by_cases hx : (1 : Int) < pe <;> simp [hx] <;> omega, rfl⟩
  have hpq : 1 ≤ pe → pm = (pe : Int) := fun h => by
    rw [← hmx]
    by_cases hx : (1 : Int) < pe
    · rw [if_pos hx]
    · rw [if_neg hx]; omega
  obtain ⟨pws, hpw, hok, ew⟩ := powers_ok (ns := ns) (n := n) (a := 6) (c := many) (size := size) (people := pm) h hn.1 hn.2 hpm (by omega) (by decide) (by omega)
  obtain ⟨sps, hsp, hok2, es⟩ := powers_ok (ns := ns) (n := n) (a := 8) (c := 1) (size := size) (people := pm) h hn.1 hn.2 hpm (by omega) (by decide) (by decide)
  obtain ⟨sp, rfl⟩ : ∃ sp, sps = [sp] := by match sps, hsp with | [sp], _ => exact ⟨sp, rfl⟩
  have e1p : pwL [sp] = [pwD sp] := rfl
  rw [e1p] at es
  have i0 : atIx [pwD sp] 0 = some (pwD sp) := rfl
  have w0 := Int.emod_nonneg (cell ns 10) (b := 17) (by decide)
  have w1 := Int.emod_lt_of_pos (cell ns 10) (b := 17) (by decide)
  have zz : sizeL ≠ 0 := by show (16777216 : Nat) ≠ 0; decide
  refine ⟨n, size, pe, many, ps, pws, sp, cell ns 10 % 17, hn, hsz, hpe, hmy, hps, hpp, hpw, fun p hp => ⟨fun h => ?_, (hok p hp).2⟩, ⟨fun h => ?_, (hok2 sp (by simp)).2⟩, ⟨w0, w1⟩, ?_⟩
  · rw [← hpq h]; exact (hok p hp).1
  · rw [← hpq h]; exact (hok2 sp (by simp)).1
  · unfold e20
    unfold pwD acD at *
    simp at c0 c1 c2 c3 c10 er ew es
    simp [b_law, c0, c1, c2, c3, c10, m4, m8, m17, z4, z8, e0, e1, e2, e3, er, hmx, ew, es, i0, zz]
end
end Law

namespace Law
open Fx
section
variable {ns : List Int} {n size pe many : Nat} {ps : List (Int × Int)} {pws : List Pow} {sp : Pow} {way : Int}
theorem spoil_step (h1 : 1 ≤ n) (h4 : n ≤ 4) (hw : 0 ≤ way ∧ way < 17) (hp : ∀ p ∈ pws, Plain p) {a : Nat} (ha : a < pws.length) {x9 : Option Val} :
    ∃ p', Plain p' ∧ okPow n size (pe : Int) p' = false ∧ execs lp_law_1 (e20 ns n size pe many ps (some (.own, .lst (pwL pws))) sp way x9 (some (.frz, .int (a : Int))) none none none none none none none none none) = .nx (e20 ns n size pe many ps (some (.own, .lst (pwL (pws.set a p')))) sp way x9 (some (.frz, .int (a : Int))) none none none none none none none none none) := by
  obtain ⟨p', k1, k2, k3⟩ := spoiled_ok (n := n) (size := size) (people := (pe : Int)) (way := way) (hp _ (List.getElem_mem ha)) h1 h4 hw
  have ix : atIx (pwL pws) (a : Int) = some (pwD pws[a]) := by rw [atIx_nat]; simp [pwL, ha]
  have sl : setList (pwL pws) (a : Int) (pwD p') = some (pwL (pws.set a p')) := by
    unfold setList
    rw [if_pos (Int.natCast_nonneg _), if_pos (by rw [pwL_len]; simpa using ha)]
    simp [pwL, List.map_set]
  refine ⟨p', k1, k2, ?_⟩
  generalize pwL (pws.set a p') = B at *
  generalize pws[a] = p at *
  generalize pwL pws = A at *
  unfold e20
  unfold pwD acD at *
  simp [lp_law_1, ix, k3, ownS_eq, sl]
theorem spoil_all (h : ns.length ≤ 63) (h1 : 1 ≤ n) (h4 : n ≤ 4) (hw : 0 ≤ way ∧ way < 17) (hl : pws.length = many) (hp : ∀ p ∈ pws, (1 ≤ pe → okPow n size (pe : Int) p = true) ∧ Plain p) :
    ∃ (pw2 : List Pow) (w : List Nat), (w = [] ∨ ∃ a b, w = [a, b]) ∧ pw2.length = many ∧ (∀ p ∈ pw2, Plain p) ∧ (1 ≤ pe → pw2.findIdx? (fun p => !okPow n size (pe : Int) p) = firstW w) ∧
    execs ((b_law.drop 9).take 2) (e20 ns n size pe many ps (some (.own, .lst (pwL pws))) sp way (some (.frz, .lst [])) none none none none none none none none none none) =
      .nx (e20 ns n size pe many ps (some (.own, .lst (pwL pw2))) sp way (some (.frz, .lst (wrL w))) none none none none none none none none none none) := by
  have c11 := cell_eq (ns := ns) (k := 11) h
  have c12 := cell_eq (ns := ns) (k := 12) h
  have c13 := cell_eq (ns := ns) (k := 13) h
  have m2 : ∀ x : Int, binI .mod x 2 = .ok (x % 2) := fun x => binI_mod (by decide)
  have z2 := szB (n := 2) (by decide)
  have plain : ∀ p ∈ pws, Plain p := fun p h => (hp p h).2
  by_cases hq : 0 < many ∧ cell ns 11 % 2 = 1
  · obtain ⟨q0, q1⟩ := hq
    have q0' : (0 : Int) < many := by omega
    have md : ∀ x : Int, binI .mod x many = .ok (x % many) := fun x => binI_mod q0'
    obtain ⟨a, ha, ea⟩ : ∃ a : Nat, a < many ∧ cell ns 12 % many = a := ⟨(cell ns 12 % many).toNat, by have := Int.emod_nonneg (cell ns 12) (b := many) (by omega); have := Int.emod_lt_of_pos (cell ns 12) q0'; omega, by have := Int.emod_nonneg (cell ns 12) (b := many) (by omega); omega⟩
    obtain ⟨b, hb, eb⟩ : ∃ a : Nat, a < many ∧ cell ns 13 % many = a := ⟨(cell ns 13 % many).toNat, by have := Int.emod_nonneg (cell ns 13) (b := many) (by omega); have := Int.emod_lt_of_pos (cell ns 13) q0'; omega, by have := Int.emod_nonneg (cell ns 13) (b := many) (by omega); omega⟩
    obtain ⟨p1, k1, k2, k3⟩ := spoil_step (ns := ns) (n := n) (size := size) (pe := pe) (many := many) (ps := ps) (sp := sp) h1 h4 hw plain (a := a) (by omega) (x9 := some (.frz, .lst [.int (a : Int), .int (b : Int)]))
    have plain2 : ∀ p ∈ pws.set a p1, Plain p := fun p h => by
      rcases List.mem_or_eq_of_mem_set h with z | z
      · exact plain p z
      · rw [z]; exact k1
    obtain ⟨p2, j1, j2, j3⟩ := spoil_step (ns := ns) (n := n) (size := size) (pe := pe) (many := many) (ps := ps) (sp := sp) h1 h4 hw plain2 (a := b) (by simp; omega) (x9 := some (.frz, .lst [.int (a : Int), .int (b : Int)]))
    refine ⟨(pws.set a p1).set b p2, [a, b], .inr ⟨a, b, rfl⟩, by simp [hl], fun p h => ?_, fun hpe => ?_, ?_⟩
    · rcases List.mem_or_eq_of_mem_set h with z | z
      · exact plain2 p z
      · rw [z]; exact j1
    · show _ = some (min a b)
      rw [List.findIdx?_eq_some_iff_getElem]
      have lt : min a b < ((pws.set a p1).set b p2).length := by simp; omega
      refine ⟨lt, ?_, fun j hj => ?_⟩
      · by_cases hab : b ≤ a
        · have e : min a b = b := by omega
          simp only [e, List.getElem_set_self, j2]
          rfl
        · have e : min a b = a := by omega
          simp only [e]
          rw [List.getElem_set_ne (by omega), List.getElem_set_self, k2]
          rfl
      · rw [List.getElem_set_ne (by omega), List.getElem_set_ne (by omega), (hp _ (List.getElem_mem _)).1 hpe]
        simp
    · have ew : wrL [a, b] = [.int (a : Int), .int (b : Int)] := rfl
      rw [ew]
      have b1 : bindT (.nm 10) (D.int (a : Int)) (e20 ns n size pe many ps (some (.own, .lst (pwL pws))) sp way (some (.frz, .lst [.int (a : Int), .int (b : Int)])) none none none none none none none none none none) = .ok (e20 ns n size pe many ps (some (.own, .lst (pwL pws))) sp way (some (.frz, .lst [.int (a : Int), .int (b : Int)])) (some (.frz, .int (a : Int))) none none none none none none none none none) := r_bT
      have b2 : bindT (.nm 10) (D.int (b : Int)) (e20 ns n size pe many ps (some (.own, .lst (pwL (pws.set a p1)))) sp way (some (.frz, .lst [.int (a : Int), .int (b : Int)])) none none none none none none none none none none) = .ok (e20 ns n size pe many ps (some (.own, .lst (pwL (pws.set a p1)))) sp way (some (.frz, .lst [.int (a : Int), .int (b : Int)])) (some (.frz, .int (b : Int))) none none none none none none none none none) := r_bT
      have w1 : ∀ x6 x9 x10, wipeE (e20 ns n size pe many ps x6 sp way x9 x10 none none none none none none none none none) [10] = e20 ns n size pe many ps x6 sp way x9 none none none none none none none none none none := fun _ _ _ => rfl
      have loop : forLoop (fun d env => bindT (.nm 10) d env) (fun env => execs lp_law_1 env) [10] [.int (a : Int), .int (b : Int)] (e20 ns n size pe many ps (some (.own, .lst (pwL pws))) sp way (some (.frz, .lst [.int (a : Int), .int (b : Int)])) none none none none none none none none none none) = .nx (e20 ns n size pe many ps (some (.own, .lst (pwL ((pws.set a p1).set b p2)))) sp way (some (.frz, .lst [.int (a : Int), .int (b : Int)])) none none none none none none none none none none) := by
        simp only [forLoop, b1, k3, w1, b2, j3]
      generalize pwL ((pws.set a p1).set b p2) = B at *
      generalize pwL pws = A at *
      unfold e20 at loop ⊢
      show execs [_, _] _ = _
      unfold pwD acD at *
      simp at c11 c12 c13 loop
      simp [c11, c12, c13, q0, q1, m2, md, ea, eb, z2, loop]
  · refine ⟨pws, [], .inl rfl, hl, plain, fun hpe => ?_, ?_⟩
    · show _ = none
      rw [List.findIdx?_eq_none_iff]
      intro p h
      rw [(hp p h).1 hpe]
      rfl
    · have ew : wrL [] = [] := rfl
      rw [ew]
      unfold e20
      show execs [_, _] _ = _
      unfold pwD acD
      simp at c11
      by_cases q0 : 0 < many
      · have q1 : ¬ (cell ns 11 % 2 = 1) := fun z => hq ⟨q0, z⟩
        simp [c11, q0, q1, m2, forLoop]
      · have : many = 0 := by omega
        subst this
        simp [forLoop]
end
end Law

namespace Law
open Fx
section
variable {ns : List Int} {n size pe many : Nat} {ps : List (Int × Int)} {pws : List Pow} {sp : Pow} {way : Int}
theorem err_made {n size : Nat} {people : Int} {pws : List Pow} (h : cdErr n size people pws = none) : size ≤ 9 ∧ (1 ≤ people ∧ people ≤ 5) ∧ pws.length ≤ 7 ∧ ∀ p ∈ pws, okPow n size people p = true := by
  unfold cdErr at h
  by_cases h1 : 9 < size
  · rw [if_pos h1] at h; cases h
  rw [if_neg h1] at h
  by_cases h2 : ¬ (1 ≤ people ∧ people ≤ 5)
  · rw [if_pos h2] at h; cases h
  rw [if_neg h2] at h
  by_cases h3 : 7 < pws.length
  · rw [if_pos h3] at h; cases h
  rw [if_neg h3] at h
  cases e : pws.findIdx? (fun p => !okPow n size people p) with
  | some i => rw [e] at h; cases h
  | none =>
    rw [List.findIdx?_eq_none_iff] at e
    exact ⟨by omega, by simpa using h2, by omega, fun p hp => by simpa using e p hp⟩
theorem stage_a (h1 : 1 ≤ n) (h4 : n ≤ 4) (hs : size ≤ 12) (hl : ps.length = size) (hpp : ∀ p ∈ ps, okP n p.1 = true ∧ okP n p.2 = true) (hm : many ≤ 8) (hq : pws.length = many) (hp : ∀ p ∈ pws, Plain p) {w : List Nat} (hw : w = [] ∨ ∃ a b, w = [a, b]) (hf : 1 ≤ pe → pws.findIdx? (fun p => !okPow n size (pe : Int) p) = firstW w) :
    execs ((b_law.drop 11).take 5) (e20 ns n size pe many ps (some (.own, .lst (pwL pws))) sp way (some (.frz, .lst (wrL w))) none none none none none none none none none none) =
      if cdErr n size (pe : Int) pws = none then .nx (e20 ns n size pe many ps (some (.own, .lst (pwL pws))) sp way (some (.frz, .lst (wrL w))) none (some (.frz, bkD n ps)) (some (.own, .lst (pwL pws))) (some (.frz, .tup [.str "made", .int 0])) none none none none none none) else .rt (.frz, .bl true) := by
  subst hl
  have bi := book_init (n := n) (ps := ps) h1 h4 (by omega) hpp
  have ex := expected_eq (n := n) (size := ps.length) (people := (pe : Int)) (pws := pws) hw (by omega) (by omega) (fun h _ => hf (by omega))
  have tr := tried_eq (n := n) (ps := ps) (people := (pe : Int)) (pws := pws) (by omega) (by omega) hp (by omega)
  have k2 := pwL_sm pws fun p h => (hp p h).2
  have sb := same_bb (xs := pwL pws) (by simp [sm, k2.1, pwL_len]; omega) (by simp only [D.dep]; omega)
  have s4 : _law_same [(.frz, errW (cdErr n ps.length pe pws)), (.frz, errW (cdErr n ps.length pe pws))] = .ok (.frz, .bl true) := by
    rcases err_cases n ps.length (pe : Int) pws with h | ⟨C, x, hC, h⟩
    · rw [h]; exact same4 rfl (by show 1 < 6; decide)
    · rw [h]; rcases hC with rfl | rfl | rfl <;> exact same4 rfl (by show 1 < 6; decide)
  have e1 : ∀ (a b : PySem.Str), cmpop .ne (.str a) (.str b) = .ok (!(a == b)) := fun _ _ => rfl
  show execs [_, _, _, _, _] _ = _
  generalize wrL w = WL at *
  generalize pwL pws = A at *
  rcases err_cases n ps.length (pe : Int) pws with h | ⟨C, x, hC, h⟩
  · rw [h] at ex tr s4
    rw [if_pos h]
    have er : errW none = .tup [.str "made", .int 0] := rfl
    rw [er] at ex tr s4
    have i0 : atIx [D.str "made", .int 0] 0 = some (.str "made") := rfl
    unfold e20 bkD at *
    unfold pwD acD
    simp [bi, ex, tr, s4, sb, i0, e1]
  · rw [h] at ex tr s4
    rw [if_neg (by rw [h]; simp)]
    obtain ⟨wd, hne, er⟩ : ∃ wd : PySem.Str, (wd == "made") = false ∧ errW (some (C, [.int x])) = .tup [.str wd, .int x] := by
      rcases hC with rfl | rfl | rfl
      · exact ⟨"count", rfl, rfl⟩
      · exact ⟨"many", rfl, rfl⟩
      · exact ⟨"power", rfl, rfl⟩
    rw [er] at ex tr s4
    have i0 : atIx [D.str wd, .int x] 0 = some (.str wd) := rfl
    unfold e20 bkD at *
    unfold pwD acD
    simp [bi, ex, tr, s4, sb, i0, e1, hne]
theorem stage_b (h : ns.length ≤ 63) (h1 : 1 ≤ n) (h4 : n ≤ 4) (hl : ps.length = size) (hq : pws.length = many) (hp : ∀ p ∈ pws, Plain p) (hsp : (1 ≤ pe → okPow n size (pe : Int) sp = true) ∧ Plain sp) (hw : 0 ≤ way ∧ way < 17) (hm : many ≤ 8) (he : cdErr n size (pe : Int) pws = none) {x9 x13 : Option Val} :
    execs (b_law.drop 16) (e20 ns n size pe many ps (some (.own, .lst (pwL pws))) sp way x9 none (some (.frz, bkD n ps)) (some (.own, .lst (pwL pws))) x13 none none none none none none) = .rt (.frz, .bl true) := by
  subst hl hq
  obtain ⟨k1, k2, k3, k4⟩ := err_made he
  have ci := code_init (n := n) (ps := ps) (people := (pe : Int)) (pws := pws) (m := .bor) (d := .lst (pwL pws)) (by omega) (by omega) hp (by omega) ⟨.inr rfl, .inl rfl⟩
  rw [he] at ci
  have ic := is_code_eq (n := n) (ps := ps) (people := (pe : Int)) (pws := pws) (m := .bor) (by omega) hp (by omega) (.inr rfl)
  have c14 := cell_eq (ns := ns) (k := 14) h
  have c15 := cell_eq (ns := ns) (k := 15) h
  have zP := szB (n := pws.length) (by omega)
  have zPl := szBl (n := pws.length) (by omega)
  have l1 : lim62 (pe : Int) = true := lim62_t (by omega) (by omega)
  have l2 : lim62 (pws.length : Int) = true := lim62_t (by omega) (by omega)
  obtain ⟨bad, b1, b2, b3⟩ := spoiled_ok (n := n) (size := ps.length) (people := (pe : Int)) (way := way) hsp.2 h1 h4 hw
  have mo := more_eq (n := n) (ps := ps) (people := (pe : Int)) (pws := pws) h1 h4 k1 k2 (fun p h => ⟨k4 p h, hp p h⟩) k3 (more := sp) (bad := bad) ⟨hsp.1 (by omega), hsp.2⟩ ⟨b2, b1⟩
  -- the group
  obtain ⟨G, hG⟩ : ∃ G : List Nat, G = (List.range pe).filter fun k : Nat => bit (cell ns 14) k := ⟨_, rfl⟩
  have lG : G.length ≤ pe := by
    rw [hG]
    have := List.length_filter_le (fun k : Nat => bit (cell ns 14) k) (List.range pe)
    rwa [List.length_range] at this
  have zG := szB (n := G.length) (by omega)
  have q1 := fun (x12 x14 : Option Val) => lc_gen (bindf := fun d => bindT (.nm 19) d (wipeE (e20 ns n ps.length pe pws.length ps (some (.own, .lst (pwL pws))) sp way x9 none (some (.frz, bkD n ps)) x12 x13 x14 none none none none none) [19])) (test := fun e => noEx (evalIfs [(.cmp .eq (.bin .and (.bin .shr (.call "_law_cell" _law_cell [(.var 0), (.cint 14)]) (.var 19)) (.cint 1)) (.cint 1))] e)) (elt := fun e => noEx ((eval (.var 19) e).bind fun v => esc v))
    (fun k : Nat => D.int (k : Int)) (fun k : Nat => bit (cell ns 14) k) (fun k : Nat => D.int (k : Int)) (List.range pe) fun k hk => by
      have sh : binI .shr (cell ns 14) (k : Int) = .ok (cell ns 14 / 2 ^ (k : Int).toNat) := binI_shr (Int.natCast_nonneg _)
      simp at c14 sh
      refine ⟨_, r_bT, ?_, fun _ => ?_⟩
      · cases hb : bit (cell ns 14) (k : Int) with
        | true =>
          have hb2 := bit_t hb
          rw [Int.toNat_natCast] at hb2
          unfold e20 pwD acD bkD
          simp [c14, sh, hb2]
        | false =>
          have hb2 := bit_f hb
          rw [Int.toNat_natCast] at hb2
          unfold e20 pwD acD bkD
          simp [c14, sh, hb2]
      · unfold e20 pwD acD bkD
        simp
  rw [← hG, ← rng0] at q1
  have eG : G.map (fun k : Nat => D.int (k : Int)) = intL (G.map fun k : Nat => (k : Int)) := by unfold intL; rw [List.map_map]; rfl
  rw [eG] at q1
  have lg : (intL (G.map fun k : Nat => (k : Int))).length = G.length := by rw [intL_len]; simp
  clear hG eG
  generalize G.map (fun k : Nat => (k : Int)) = g at *
  -- who is held
  have hq2 := held_eq (n := n) (ps := ps) (people := (pe : Int)) (pws := pws) (g := g) (by omega)
  have lH : (heldM pws g).length ≤ pws.length := by
    unfold heldM
    have := List.length_filter_le (fun k => decide ((pws[k]?.getD dfP).1 ∈ g)) (List.range pws.length)
    rwa [List.length_range] at this
  have zH := szB (n := (heldM pws g).length) (by omega)
  have q2 := fun (x12 x14 : Option Val) => lc_gen (bindf := fun d => bindT (.nm 19) d (wipeE (e20 ns n ps.length pe pws.length ps (some (.own, .lst (pwL pws))) sp way x9 none (some (.frz, bkD n ps)) x12 x13 x14 (some (.frz, .tup (intL g))) none none none none) [19])) (test := fun e => noEx (evalIfs [(.cmp .inn (.ix (.ix (.var 6) (.var 19)) (.cint 0)) (.var 15))] e)) (elt := fun e => noEx ((eval (.var 19) e).bind fun v => esc v))
    (fun k : Nat => D.int (k : Int)) (fun k : Nat => decide ((pws[k]?.getD dfP).1 ∈ g)) (fun k : Nat => D.int (k : Int)) (List.range pws.length) fun k hk => by
      have hk2 := List.mem_range.mp hk
      have ix : atIx (pwL pws) (k : Int) = some (pwD (pws[k]?.getD dfP)) := by rw [atIx_nat]; simp [pwL, hk2]
      generalize pws[k]?.getD dfP = p at *
      have ni := in_it p.1 g
      have i0 : atIx [D.int p.1, .str p.2.1, .int p.2.2.1, acD p.2.2.2] 0 = some (.int p.1) := rfl
      refine ⟨_, r_bT, ?_, fun _ => ?_⟩
      · unfold e20 bkD
        unfold pwD at *
        generalize (acD sp.2.2.2) = AS
        generalize pwL pws = A at *
        simp [ix, i0, ni]
      · unfold e20 bkD
        unfold pwD at *
        simp
  rw [← rng0] at q2
  have eH : (List.range pws.length).filter (fun k => decide ((pws[k]?.getD dfP).1 ∈ g)) = heldM pws g := rfl
  rw [eH] at q2
  have sH := same4 (d := .tup ((heldM pws g).map fun k : Nat => D.int (k : Int))) (by
    have key : ∀ l : List Nat, smL (l.map fun k : Nat => D.int (k : Int)) = true := by
      intro l
      induction l with
      | nil => rfl
      | cons x l ih => simp [smL, sm, ih]
    simp [sm, key]; omega) (by
    have key : ∀ l : List Nat, D.depL (l.map fun k : Nat => D.int (k : Int)) = 0 := by
      intro l
      induction l with
      | nil => rfl
      | cons x l ih => simp [D.depL, D.dep, ih]
    simp only [D.dep, key]; decide)
  have lHm : ((heldM pws g).map fun k : Nat => D.int (k : Int)).length = (heldM pws g).length := by simp
  generalize (heldM pws g).map (fun k : Nat => D.int (k : Int)) = HL at *
  generalize (heldM pws g).length = hl at *
  have fin : ∀ (x9 x10 x11 x12 x13 x15 x16 x17 x18 x19 : Option Val), execs (b_law.drop 25) (e20 ns n ps.length pe pws.length ps (some (.own, .lst (pwL pws))) sp way x9 x10 x11 x12 x13 (some (.frz, cdD n ps pe pws)) x15 x16 x17 x18 x19) = .rt (.frz, .bl true) := by
    intro x9 x10 x11 x12 x13 x15 x16 x17 x18 x19
    show execs [_] _ = _
    unfold e20 cdD bkD at *
    simp [ic]
  have fin2 : ∀ (x9 x10 x11 x12 x13 x15 x16 x17 : Option Val), execs (b_law.drop 24) (e20 ns n ps.length pe pws.length ps (some (.own, .lst (pwL pws))) sp way x9 x10 x11 x12 x13 (some (.frz, cdD n ps pe pws)) x15 x16 x17 none none) = .rt (.frz, .bl true) := by
    intro x9 x10 x11 x12 x13 x15 x16 x17
    rw [ex_split 1, List.drop_drop]
    by_cases p0 : 0 < pws.length
    · have p0' : (0 : Int) < pws.length := by omega
      have md : ∀ x : Int, binI .mod x pws.length = .ok (x % pws.length) := fun x => binI_mod p0'
      obtain ⟨k, hk, ek⟩ : ∃ a : Nat, a < pws.length ∧ cell ns 15 % pws.length = a := ⟨(cell ns 15 % pws.length).toNat, by have := Int.emod_nonneg (cell ns 15) (b := pws.length) (by omega); have := Int.emod_lt_of_pos (cell ns 15) p0'; omega, by have := Int.emod_nonneg (cell ns 15) (b := pws.length) (by omega); omega⟩
      have sub : ∀ p ∈ pws.take k ++ pws.drop (k + 1), p ∈ pws := fun p hp => by
        rcases List.mem_append.mp hp with h | h
        · exact List.mem_of_mem_take h
        · exact List.mem_of_mem_drop h
      have e0 : cdErr n ps.length (pe : Int) (pws.take k ++ pws.drop (k + 1)) = none := err_none k1 k2 (by simp; omega) fun p h => k4 p (sub p h)
      have wq := without_eq (n := n) (ps := ps) (people := (pe : Int)) (pws := pws) (by omega) (by omega) hp (by omega) hk e0
      have ic2 := is_code_eq (n := n) (ps := ps) (people := (pe : Int)) (pws := pws.take k ++ pws.drop (k + 1)) (m := .frz) (by omega) (fun p h => hp p (sub p h)) (by simp; omega) (.inl rfl)
      have c1 : cutL (pwL pws) none (some (k : Int)) = (pwL pws).take k := cut_anyT
      have c2 : cutL (pwL pws) (some ((k : Int) + 1)) none = (pwL pws).drop (k + 1) := by rw [show (k : Int) + 1 = ((k + 1 : Nat) : Int) from rfl]; exact cut_anyF
      have e : pwL (pws.take k ++ pws.drop (k + 1)) = (pwL pws).take k ++ (pwL pws).drop (k + 1) := by simp [pwL]
      have la : ((pwL pws).take k).length = k := by rw [List.length_take, pwL_len]; omega
      have lb : ((pwL pws).drop (k + 1)).length = pws.length - (k + 1) := by rw [List.length_drop, pwL_len]
      have z1 := szB (n := k) (by omega)
      have z2 := szB (n := pws.length - (k + 1)) (by omega)
      have z3 := szB (n := k + (pws.length - (k + 1))) (by omega)
      have fin' := fin x9 x10 x11 x12 x13 x15 x16 x17 (some (.frz, .int (k : Int))) none
      have step : execs ((b_law.drop 24).take 1) (e20 ns n ps.length pe pws.length ps (some (.own, .lst (pwL pws))) sp way x9 x10 x11 x12 x13 (some (.frz, cdD n ps pe pws)) x15 x16 x17 none none) = .nx (e20 ns n ps.length pe pws.length ps (some (.own, .lst (pwL pws))) sp way x9 x10 x11 x12 x13 (some (.frz, cdD n ps pe pws)) x15 x16 x17 (some (.frz, .int (k : Int))) none) := by
        show execs [_] _ = _
        unfold cdD at *
        rw [e] at wq ic2
        generalize (pwL pws).take k = A at *
        generalize (pwL pws).drop (k + 1) = B at *
        generalize pwL pws = C at *
        unfold e20 bkD at *
        simp at c15
        simp [c15, p0, p0', md, ek, wq, r_slL, c1, c2, la, lb, z1, z2, z3, ic2]
      show goOn (execs ((b_law.drop 24).take 1) _) _ = _
      rw [step, goOn_nx]
      exact fin'
    · have fin' := fin x9 x10 x11 x12 x13 x15 x16 x17 none none
      have p0' : ¬ ((0 : Int) < pws.length) := by omega
      have step : execs ((b_law.drop 24).take 1) (e20 ns n ps.length pe pws.length ps (some (.own, .lst (pwL pws))) sp way x9 x10 x11 x12 x13 (some (.frz, cdD n ps pe pws)) x15 x16 x17 none none) = .nx (e20 ns n ps.length pe pws.length ps (some (.own, .lst (pwL pws))) sp way x9 x10 x11 x12 x13 (some (.frz, cdD n ps pe pws)) x15 x16 x17 none none) := by
        show execs [_] _ = _
        unfold e20
        simp [p0, p0']
      show goOn (execs ((b_law.drop 24).take 1) _) _ = _
      rw [step, goOn_nx]
      exact fin'
  have main : execs ((b_law.drop 16).take 8) (e20 ns n ps.length pe pws.length ps (some (.own, .lst (pwL pws))) sp way x9 none (some (.frz, bkD n ps)) (some (.own, .lst (pwL pws))) x13 none none none none none none) = .nx (e20 ns n ps.length pe pws.length ps (some (.own, .lst (pwL pws))) sp way x9 none (some (.frz, bkD n ps)) (some (.own, .lst (pwL pws ++ [pwD sp]))) x13 (some (.frz, cdD n ps pe pws)) (some (.frz, .tup (intL g))) (some (.frz, .lst HL)) (some (.frz, pwD bad)) none none) := by
    clear fin fin2
    show execs [_, _, _, _, _, _, _, _] _ = _
    unfold e20 at *
    have lA := pwL_len pws
    generalize intL g = GL at *
    generalize pwL pws = A at *
    unfold cdD bkD pwD acD at *
    simp at q1 q2
    simp [ci, ownL_eq, lA, zPl, ic, l1, l2, q1, lg, zG, q2, lHm, zH, hq2, sH, b3, mo]
  rw [ex_split 8, main, goOn_nx, List.drop_drop]
  exact fin2 _ _ _ _ _ _ _ _
theorem math (ns : List Int) (h : ns.length ≤ 63) : ∃ m, law [(.frz, .scr ns)] = .ok (m, .bl true) := by
  refine ⟨.frz, ?_⟩
  unfold law
  rw [runDef_eq (by rfl)]
  obtain ⟨n, size, pe, many, ps, pws, sp, way, hn, hsz, hpe, hmy, hps, hpp, hpw, hok, hsp, hw, e1⟩ := stage1 h
  obtain ⟨pw2, w, hwl, hl2, hp2, hf, e2⟩ := spoil_all h hn.1 hn.2 hw hpw hok (ps := ps) (sp := sp) (ns := ns)
  have ea := stage_a hn.1 hn.2 hsz hps hpp hmy hl2 hp2 hwl hf (ns := ns) (sp := sp) (way := way)
  show retO (execs b_law [some (.frz, .scr ns), none, none, none, none, none, none, none, none, none, none, none, none, none, none, none, none, none, none, none]) = _
  rw [ex_split 9, e1, goOn_nx, ex_split 2, e2, goOn_nx, List.drop_drop, ex_split 5]
  show retO (goOn (execs ((b_law.drop 11).take 5) _) _) = _
  rw [ea]
  by_cases he : cdErr n size (pe : Int) pw2 = none
  · rw [if_pos he, goOn_nx, List.drop_drop]
    have eb := stage_b h hn.1 hn.2 hps hl2 hp2 hsp hw hmy he (ns := ns) (x9 := some (.frz, .lst (wrL w))) (x13 := some (.frz, .tup [.str "made", .int 0]))
    show retO (execs (b_law.drop 16) _) = _
    rw [eb]
    rfl
  · rw [if_neg he]
    rfl
end
end Law


open PySem PySem.W PyProof.Rows
set_option maxRecDepth 100000 in
set_option maxHeartbeats 0 in
theorem PySem.Challenge.cw_powersanddays_k00_codes_made_and_refused_holds : PySem.Challenge.rw_powersanddays_k00_codes_made_and_refused.Holds := by
  w_on; o_law; k_head; (case hw => w_witness2)
  k_fill
  refine Fx.walkL (l := PySem.Challenge.rw_powersanddays_k00_codes_made_and_refused) (k := 9) rfl rfl ⟨rfl, by decide, by decide⟩ (fun w h Y => PySem.W.kIn_of Y) Law.math ?F
  case F =>
    intro w mg fa h KX G hmg
    refine' Law.all_mk KX G hmg ?g0_len ?g0_abs ?g0_int ?g0_bool ?g0_all ?g0_any ?g0_sum ?g0_tuple ?g0_list ?g0_sorted ?g0_min ?g0_max ?g0_range ?g0_enumerate ?g0_zip ?g0_reversed ?g0_isinstance ?g0_set ?g0_dict ?g0_frozenset ?g0_super ?g0_str ?a_Code ?a_Book ?pg_Code ?hd_Code ?po_Code ?sa_Code ?pg_Book ?hd_Book ?po_Book ?sa_Book ?n_Book_n ?n_Book_rules ?n_Code_book ?n_Code_n ?n_Code_people ?n_Code_powers ?mk_Book ?kc_Book ?mk_Code ?kc_Code ?rd_Book ?ga_Book ?cv_Book_MOST_LETTERS ?cv_Book_MOST_RULES ?gc_BASE_LIMIT ?gc_NEEDS ?gt_NEEDS ?gc_PEOPLE_LIMIT ?gc_POWER_LIMIT ?a__law_cell ?l__law_cell ?cc__law_cell ?kk__law_cell ?a__law_numbers ?l__law_numbers ?cc__law_numbers ?kk__law_numbers ?a__law_rules ?l__law_rules ?cc__law_rules ?kk__law_rules ?a__law_powers ?l__law_powers ?cc__law_powers ?kk__law_powers ?a__law_spoiled ?l__law_spoiled ?cc__law_spoiled ?kk__law_spoiled ?a_everything ?l_everything ?cc_everything ?kk_everything ?a_is_prop ?l_is_prop ?cc_is_prop ?kk_is_prop ?a_Book___init__ ?i_Book___init__ ?l_Book___init__ ?cc_Book___init__ ?kk_Book___init__ ?a__law_expected ?l__law_expected ?cc__law_expected ?kk__law_expected ?a__law_same ?l__law_same ?cc__law_same ?kk__law_same ?a_Book_size ?pg1_Book_size ?pt_Book_size ?pr_Book_size ?l_Book_size ?cc_Book_size ?kk_Book_size ?a_is_act ?l_is_act ?cc_is_act ?kk_is_act ?a_is_power ?l_is_power ?cc_is_power ?kk_is_power ?a_Code___init__ ?i_Code___init__ ?l_Code___init__ ?cc_Code___init__ ?kk_Code___init__ ?a__law_tried ?l__law_tried ?cc__law_tried ?kk__law_tried ?a_Code_size ?pg1_Code_size ?pt_Code_size ?pr_Code_size ?l_Code_size ?cc_Code_size ?kk_Code_size ?a__law_is_code ?l__law_is_code ?cc__law_is_code ?kk__law_is_code ?a_Code_held_by ?i_Code_held_by ?l_Code_held_by ?cc_Code_held_by ?kk_Code_held_by ?a_Code_with_power ?i_Code_with_power ?l_Code_with_power ?cc_Code_with_power ?kk_Code_with_power ?a__law_more ?l__law_more ?cc__law_more ?kk__law_more ?a_Code_without_power ?i_Code_without_power ?l_Code_without_power ?cc_Code_without_power ?kk_Code_without_power ?a_law ?l_law ?cc_law ?kk_law ?a_DueError ?xs_DueError ?xh_DueError ?xga_DueError ?xgg_DueError ?xcl_DueError ?xm_DueError ?xic_DueError ?xt_DueError ?a_BadCount ?xs_BadCount ?xh_BadCount ?xga_BadCount ?xgg_BadCount ?xcl_BadCount ?xm_BadCount ?xic_BadCount ?xt_BadCount ?xn_BadCount_number ?a_TooMany ?xs_TooMany ?xh_TooMany ?xga_TooMany ?xgg_TooMany ?xcl_TooMany ?xm_TooMany ?xic_TooMany ?xt_TooMany ?xn_TooMany_limit ?a_BadRule ?xs_BadRule ?xh_BadRule ?xga_BadRule ?xgg_BadRule ?xcl_BadRule ?xm_BadRule ?xic_BadRule ?xt_BadRule ?xn_BadRule_number ?a_BadPower ?xs_BadPower ?xh_BadPower ?xga_BadPower ?xgg_BadPower ?xcl_BadPower ?xm_BadPower ?xic_BadPower ?xt_BadPower ?xn_BadPower_number ?icl_Book ?im_Book ?icl_Code ?im_Code ?sgc ?tkc ?sb_DueError_BadCount ?sb_BadCount_BadCount ?sb_TooMany_BadCount ?sb_BadRule_BadCount ?sb_BadPower_BadCount ?sb_DueError_BadPower ?sb_BadCount_BadPower ?sb_TooMany_BadPower ?sb_BadRule_BadPower ?sb_BadPower_BadPower ?sb_DueError_DueError ?sb_BadCount_DueError ?sb_TooMany_DueError ?sb_BadRule_DueError ?sb_BadPower_DueError ?sb_DueError_TooMany ?sb_BadCount_TooMany ?sb_TooMany_TooMany ?sb_BadRule_TooMany ?sb_BadPower_TooMany ?tpany ?xl_BadCount ?xb_BadCount ?xsa_BadCount ?xi_BadCount ?xft_BadCount ?xk_BadCount ?xve_BadCount ?xsu_BadCount ?xo_BadCount ?xfl_BadCount ?xcd_BadCount ?xcl2_BadCount ?xvs_BadCount ?xfi_BadCount ?xce_BadCount ?xl_BadPower ?xb_BadPower ?xsa_BadPower ?xi_BadPower ?xft_BadPower ?xk_BadPower ?xve_BadPower ?xsu_BadPower ?xo_BadPower ?xfl_BadPower ?xcd_BadPower ?xcl2_BadPower ?xvs_BadPower ?xfi_BadPower ?xce_BadPower ?xl_BadRule ?xb_BadRule ?xsa_BadRule ?xi_BadRule ?xft_BadRule ?xk_BadRule ?xve_BadRule ?xsu_BadRule ?xo_BadRule ?xfl_BadRule ?xcd_BadRule ?xcl2_BadRule ?xvs_BadRule ?xfi_BadRule ?xce_BadRule ?xl_TooMany ?xb_TooMany ?xsa_TooMany ?xi_TooMany ?xft_TooMany ?xk_TooMany ?xve_TooMany ?xsu_TooMany ?xo_TooMany ?xfl_TooMany ?xcd_TooMany ?xcl2_TooMany ?xvs_TooMany ?xfi_TooMany ?xce_TooMany
    (case g0_len => k_is)
    (case g0_abs => k_is)
    (case g0_int => k_is)
    (case g0_bool => k_is)
    (case g0_all => k_is)
    (case g0_any => k_is)
    (case g0_sum => k_is)
    (case g0_tuple => k_is)
    (case g0_list => k_is)
    (case g0_sorted => k_is)
    (case g0_min => k_is)
    (case g0_max => k_is)
    (case g0_range => k_is)
    (case g0_enumerate => k_is)
    (case g0_zip => k_is)
    (case g0_reversed => k_is)
    (case g0_isinstance => k_is)
    (case g0_set => k_is)
    (case g0_dict => k_is)
    (case g0_frozenset => k_is)
    (case g0_super => k_is)
    (case g0_str => k_is)
    (case a_Code => k_is)
    (case a_Book => k_is)
    (case pg_Code => k_is)
    (case hd_Code => k_is)
    (case po_Code => k_is)
    (case sa_Code => k_is)
    (case pg_Book => k_is)
    (case hd_Book => k_is)
    (case po_Book => k_is)
    (case sa_Book => k_is)
    (case n_Book_n => k_is)
    (case n_Book_rules => k_is)
    (case n_Code_book => k_is)
    (case n_Code_n => k_is)
    (case n_Code_people => k_is)
    (case n_Code_powers => k_is)
    (case mk_Book => k_is)
    (case kc_Book => k_is)
    (case mk_Code => k_is)
    (case kc_Code => k_is)
    (case rd_Book => k_is)
    (case ga_Book => k_is)
    (case cv_Book_MOST_LETTERS => k_is)
    (case cv_Book_MOST_RULES => k_is)
    (case gc_BASE_LIMIT => k_is)
    (case gc_NEEDS => k_is)
    (case gt_NEEDS => k_is)
    (case gc_PEOPLE_LIMIT => k_is)
    (case gc_POWER_LIMIT => k_is)
    (case a__law_cell => k_is)
    (case l__law_cell => k_is)
    (case cc__law_cell => k_is)
    (case kk__law_cell => k_is)
    (case a__law_numbers => k_is)
    (case l__law_numbers => k_is)
    (case cc__law_numbers => k_is)
    (case kk__law_numbers => k_is)
    (case a__law_rules => k_is)
    (case l__law_rules => k_is)
    (case cc__law_rules => k_is)
    (case kk__law_rules => k_is)
    (case a__law_powers => k_is)
    (case l__law_powers => k_is)
    (case cc__law_powers => k_is)
    (case kk__law_powers => k_is)
    (case a__law_spoiled => k_is)
    (case l__law_spoiled => k_is)
    (case cc__law_spoiled => k_is)
    (case kk__law_spoiled => k_is)
    (case a_everything => k_is)
    (case l_everything => k_is)
    (case cc_everything => k_is)
    (case kk_everything => k_is)
    (case a_is_prop => k_is)
    (case l_is_prop => k_is)
    (case cc_is_prop => k_is)
    (case kk_is_prop => k_is)
    (case a_Book___init__ => k_is)
    (case i_Book___init__ => k_is)
    (case l_Book___init__ => k_is)
    (case cc_Book___init__ => k_is)
    (case kk_Book___init__ => k_is)
    (case a__law_expected => k_is)
    (case l__law_expected => k_is)
    (case cc__law_expected => k_is)
    (case kk__law_expected => k_is)
    (case a__law_same => k_is)
    (case l__law_same => k_is)
    (case cc__law_same => k_is)
    (case kk__law_same => k_is)
    (case a_Book_size => k_is)
    (case pg1_Book_size => k_is)
    (case pt_Book_size => k_is)
    (case pr_Book_size => k_is)
    (case l_Book_size => k_is)
    (case cc_Book_size => k_is)
    (case kk_Book_size => k_is)
    (case a_is_act => k_is)
    (case l_is_act => k_is)
    (case cc_is_act => k_is)
    (case kk_is_act => k_is)
    (case a_is_power => k_is)
    (case l_is_power => k_is)
    (case cc_is_power => k_is)
    (case kk_is_power => k_is)
    (case a_Code___init__ => k_is)
    (case i_Code___init__ => k_is)
    (case l_Code___init__ => k_is)
    (case cc_Code___init__ => k_is)
    (case kk_Code___init__ => k_is)
    (case a__law_tried => k_is)
    (case l__law_tried => k_is)
    (case cc__law_tried => k_is)
    (case kk__law_tried => k_is)
    (case a_Code_size => k_is)
    (case pg1_Code_size => k_is)
    (case pt_Code_size => k_is)
    (case pr_Code_size => k_is)
    (case l_Code_size => k_is)
    (case cc_Code_size => k_is)
    (case kk_Code_size => k_is)
    (case a__law_is_code => k_is)
    (case l__law_is_code => k_is)
    (case cc__law_is_code => k_is)
    (case kk__law_is_code => k_is)
    (case a_Code_held_by => k_is)
    (case i_Code_held_by => k_is)
    (case l_Code_held_by => k_is)
    (case cc_Code_held_by => k_is)
    (case kk_Code_held_by => k_is)
    (case a_Code_with_power => k_is)
    (case i_Code_with_power => k_is)
    (case l_Code_with_power => k_is)
    (case cc_Code_with_power => k_is)
    (case kk_Code_with_power => k_is)
    (case a__law_more => k_is)
    (case l__law_more => k_is)
    (case cc__law_more => k_is)
    (case kk__law_more => k_is)
    (case a_Code_without_power => k_is)
    (case i_Code_without_power => k_is)
    (case l_Code_without_power => k_is)
    (case cc_Code_without_power => k_is)
    (case kk_Code_without_power => k_is)
    (case a_law => k_is)
    (case l_law => k_is)
    (case cc_law => k_is)
    (case kk_law => k_is)
    (case a_DueError => k_is)
    (case xs_DueError => k_is)
    (case xh_DueError => k_is)
    (case xga_DueError => k_is)
    (case xgg_DueError => k_is)
    (case xcl_DueError => k_is)
    (case xm_DueError => k_is)
    (case xic_DueError => k_is)
    (case xt_DueError => k_is)
    (case a_BadCount => k_is)
    (case xs_BadCount => k_is)
    (case xh_BadCount => k_is)
    (case xga_BadCount => k_is)
    (case xgg_BadCount => k_is)
    (case xcl_BadCount => k_is)
    (case xm_BadCount => k_is)
    (case xic_BadCount => k_is)
    (case xt_BadCount => k_is)
    (case xn_BadCount_number => k_is)
    (case a_TooMany => k_is)
    (case xs_TooMany => k_is)
    (case xh_TooMany => k_is)
    (case xga_TooMany => k_is)
    (case xgg_TooMany => k_is)
    (case xcl_TooMany => k_is)
    (case xm_TooMany => k_is)
    (case xic_TooMany => k_is)
    (case xt_TooMany => k_is)
    (case xn_TooMany_limit => k_is)
    (case a_BadRule => k_is)
    (case xs_BadRule => k_is)
    (case xh_BadRule => k_is)
    (case xga_BadRule => k_is)
    (case xgg_BadRule => k_is)
    (case xcl_BadRule => k_is)
    (case xm_BadRule => k_is)
    (case xic_BadRule => k_is)
    (case xt_BadRule => k_is)
    (case xn_BadRule_number => k_is)
    (case a_BadPower => k_is)
    (case xs_BadPower => k_is)
    (case xh_BadPower => k_is)
    (case xga_BadPower => k_is)
    (case xgg_BadPower => k_is)
    (case xcl_BadPower => k_is)
    (case xm_BadPower => k_is)
    (case xic_BadPower => k_is)
    (case xt_BadPower => k_is)
    (case xn_BadPower_number => k_is)
    (case icl_Book => k_is)
    (case im_Book => k_is)
    (case icl_Code => k_is)
    (case im_Code => k_is)
    (case sgc => k_is)
    (case tkc => k_is)
    (case sb_DueError_BadCount => k_is)
    (case sb_BadCount_BadCount => k_is)
    (case sb_TooMany_BadCount => k_is)
    (case sb_BadRule_BadCount => k_is)
    (case sb_BadPower_BadCount => k_is)
    (case sb_DueError_BadPower => k_is)
    (case sb_BadCount_BadPower => k_is)
    (case sb_TooMany_BadPower => k_is)
    (case sb_BadRule_BadPower => k_is)
    (case sb_BadPower_BadPower => k_is)
    (case sb_DueError_DueError => k_is)
    (case sb_BadCount_DueError => k_is)
    (case sb_TooMany_DueError => k_is)
    (case sb_BadRule_DueError => k_is)
    (case sb_BadPower_DueError => k_is)
    (case sb_DueError_TooMany => k_is)
    (case sb_BadCount_TooMany => k_is)
    (case sb_TooMany_TooMany => k_is)
    (case sb_BadRule_TooMany => k_is)
    (case sb_BadPower_TooMany => k_is)
    (case tpany => k_is)
    (case xl_BadCount => k_is)
    (case xb_BadCount => first | rfl | decide +kernel | k_is)
    (case xsa_BadCount => k_is)
    (case xi_BadCount => k_is)
    (case xft_BadCount => k_is)
    (case xk_BadCount => k_is)
    (case xve_BadCount => k_is)
    (case xsu_BadCount => ks_is)
    (case xo_BadCount => k_is)
    (case xfl_BadCount => k_is)
    (case xcd_BadCount => k_is)
    (case xcl2_BadCount => k_is)
    (case xvs_BadCount => first | rfl | decide +kernel | k_is)
    (case xfi_BadCount => first | rfl | decide +kernel | k_is)
    (case xce_BadCount => k_is)
    (case xl_BadPower => k_is)
    (case xb_BadPower => first | rfl | decide +kernel | k_is)
    (case xsa_BadPower => k_is)
    (case xi_BadPower => k_is)
    (case xft_BadPower => k_is)
    (case xk_BadPower => k_is)
    (case xve_BadPower => k_is)
    (case xsu_BadPower => ks_is)
    (case xo_BadPower => k_is)
    (case xfl_BadPower => k_is)
    (case xcd_BadPower => k_is)
    (case xcl2_BadPower => k_is)
    (case xvs_BadPower => first | rfl | decide +kernel | k_is)
    (case xfi_BadPower => first | rfl | decide +kernel | k_is)
    (case xce_BadPower => k_is)
    (case xl_BadRule => k_is)
    (case xb_BadRule => first | rfl | decide +kernel | k_is)
    (case xsa_BadRule => k_is)
    (case xi_BadRule => k_is)
    (case xft_BadRule => k_is)
    (case xk_BadRule => k_is)
    (case xve_BadRule => k_is)
    (case xsu_BadRule => ks_is)
    (case xo_BadRule => k_is)
    (case xfl_BadRule => k_is)
    (case xcd_BadRule => k_is)
    (case xcl2_BadRule => k_is)
    (case xvs_BadRule => first | rfl | decide +kernel | k_is)
    (case xfi_BadRule => first | rfl | decide +kernel | k_is)
    (case xce_BadRule => k_is)
    (case xl_TooMany => k_is)
    (case xb_TooMany => first | rfl | decide +kernel | k_is)
    (case xsa_TooMany => k_is)
    (case xi_TooMany => k_is)
    (case xft_TooMany => k_is)
    (case xk_TooMany => k_is)
    (case xve_TooMany => k_is)
    (case xsu_TooMany => ks_is)
    (case xo_TooMany => k_is)
    (case xfl_TooMany => k_is)
    (case xcd_TooMany => k_is)
    (case xcl2_TooMany => k_is)
    (case xvs_TooMany => first | rfl | decide +kernel | k_is)
    (case xfi_TooMany => first | rfl | decide +kernel | k_is)
    (case xce_TooMany => k_is)

