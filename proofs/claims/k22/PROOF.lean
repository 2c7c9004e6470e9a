import PyProof.Rows.All
import HandS.ForMost
import HandS.WideBits
import HandS.DictComp
import HandS.IsInst
import HandS.TupAny
import HandS.TupMul
import HandS.TupLe
import PyProof.Rows.StrMul
import HandS.Dict
import HandS.More
import HandS.Text
import HandS.WordsDict
import HandS.Conv
import HandS.Zip
import KE.GoesEnum
import HandS.Codes
import HandS.Defaults
import HandS.Style
import HandS.Small
import HandS.HeadEnd
import HandS.HeadHook1
import HandS.HeadHook2
import HandS.HeadHook3
import HandS.HeadHook4
import HandS.Head0
import HandS.Head1
import HandS.Head2
import KE.KStateDown
import Lean
import HandS.Ends
import HandS.Words
import HandS.WordsExc
import PySem.Challenge.RW_stagecue_k22_back_at_all_edges
section
set_option Elab.async false
set_option linter.all false
set_option maxRecDepth 100000
/-! EA: values as trees, slots with owners, the little language and what it computes. -/
namespace Eng
open PySem L2

/-- values as trees -/
inductive Val where
  | non | bl (b : Bool) | int (i : Int) | str (s : Str)
  | tup (xs : List Val) | lst (xs : List Val)
  | dct (kvs : List (Key × Val))
  | ins (c : Nat) (fs : List (Str × Val))
  | kd (j : Nat)
  | scr (is : List Int)
  deriving Inhabited

/-- a name's slot: nothing; a value that never changes; an object of its own (a list, a dict, an instance); one that a caller lent -/
inductive Slot where
  | un | val (v : Val) | own (v : Val) | lent (v : Val) | sh
  deriving Inhabited
/-- what an expression hands on: a value; an object of nobody else; the slot's own -/
inductive RV where
  | v (x : Val) | o (x : Val) | b (i : Nat)
  deriving Inhabited
inductive Arg where
  | val (v : Val) | lent (v : Val)
  deriving Inhabited
abbrev Env := List Slot
abbrev FT := Nat → List Arg → Option (RV × List Val)

def cap : Nat := 100000

mutual
inductive E where
  | lit (v : Val)
  | var (i : Nat)
  | tup (es : Es) | lst (es : Es)
  | dsp (ps : Es)
  | bin (op : Operator) (a b : E)
  | neg (a : E)
  | cmp (op : CmpOp) (a b : E)
  | chn (op op' : CmpOp) (a b c : E)
  | and2 (a b : E) | or2 (a b : E) | not (a : E)
  | ife (c a b : E)
  | ix (a i : E)
  | slc (a : E) (lo hi : OE)
  | fld (a : E) (f : Str)
  | call (f : Nat) (as : Es)
  | meth (m : Str) (r : E) (as : Es)
  | make (c : Nat) (as : Es)
  | blt (b : Nat) (as : Es)
  | dget1 (a k : E)
  | dget2 (a k x : E)
  | isB (a : E) (t : Nat)
  | isC (a : E) (c : Nat)
  | lc (elt : E) (tg : List Nat) (it : It) (ifs : Es) (own : List Nat)
  | dc (k v : E) (tg : List Nat) (it : It) (ifs : Es) (own : List Nat)
inductive Es where
  | nil | cons (e : E) (es : Es)
inductive OE where
  | no | so (e : E)
inductive It where
  | seq (e : E) | rng1 (a : E) | rng2 (a b : E) | enum (e : E) | zip (a b : E)
end
inductive Tg where
  | nm (i : Nat) | sub (o i : E)
mutual
inductive S where
  | exp (e : E)
  | asg (i : Nat) (e : E)
  | asgT (ts : List Tg) (e : E)
  | par (is : List Nat) (es : Es)
  | fldS (o : E) (f : Str) (e : E)
  | subS (o i e : E)
  | app (i : Nat) (e : E)
  | ife (c : E) (a b : Ss)
  | for_ (tg : List Nat) (it : It) (body : Ss)
  | while_ (c : E) (body : Ss)
  | ret (e : E) | retN | bad | pass | brk | cont
inductive Ss where
  | nil | cons (s : S) (ss : Ss)
end

structure FnR where
  np : Nat
  ns : Nat
  body : Ss
structure ClsR where
  init : Nat
  flds : List Str
  frozen : Bool
  meths : List (Str × Nat)
structure Tbl where
  fns : List FnR
  cls : List ClsR
  kds : List (List (Str × Val))
  wf : Nat

/-! ### values -/
def isNat31 (i : Int) : Bool := decide (0 < i) && decide (i < 1073741824)
def small64 (i : Int) : Bool := decide (-18446744073709551616 < i) && decide (i < 18446744073709551616)

def tru : Val → Option Bool
  | .non => some false
  | .bl b => some b
  | .int i => some (i != 0)
  | .str s => if s.length ≤ cap then some ((s.length : Int) != 0) else none
  | .tup xs => some (!xs.isEmpty)
  | .lst xs => some (!xs.isEmpty)
  | .dct kvs => some (!kvs.isEmpty)
  | _ => none

def binop : Operator → Val → Val → Option RV
  | .Add, .int i, .int j => some (.v (.int (i + j)))
  | .Add, .str a, .str b => if a.length + b.length ≤ cap then some (.v (.str (a ++ b))) else none
  | .Add, .tup xs, .tup ys => if xs.length + ys.length ≤ cap then some (.v (.tup (xs ++ ys))) else none
  | .Add, .lst xs, .lst ys => if xs.length + ys.length ≤ cap then some (.o (.lst (xs ++ ys))) else none
  | .Sub, .int i, .int j => some (.v (.int (i - j)))
  | .Mult, .int i, .int j => if small64 i || small64 j then some (.v (.int (i * j))) else none
  | .Mult, .tup xs, .int k => if xs.isEmpty then none else if 0 ≤ k ∧ k ≤ 1000 ∧ xs.length ≤ 1000 then some (.v (.tup (List.replicate k.toNat xs).flatten)) else none
  | .Mult, .str z, .int k => if z.length ≤ 16 ∧ 0 ≤ k ∧ k ≤ 1000 then some (.v (.str (Txt.mul z k))) else none
  | .FloorDiv, .int i, .int j => if isNat31 j then some (.v (.int (i / j))) else none
  | .Mod, .int i, .int j => if 0 < j then some (.v (.int (i % j))) else none
  | .Pow, .int i, .int j => if 0 ≤ j ∧ j ≤ 1000 ∧ small64 i = true then some (.v (.int (i ^ j.toNat))) else none
  | _, _, _ => none

mutual
def veqB : Val → Val → Bool
  | .non, .non => true
  | .bl a, .bl b => a == b
  | .bl a, .int j => (if a then 1 else 0) == j
  | .int i, .bl b => i == (if b then 1 else 0)
  | .int i, .int j => i == j
  | .str x, .str y => x == y
  | .tup xs, .tup ys => veqBs xs ys
  | .lst xs, .lst ys => veqBs xs ys
  | _, _ => false
def veqBs : List Val → List Val → Bool
  | [], [] => true
  | x :: xs, y :: ys => veqB x y && veqBs xs ys
  | _, _ => false
end
mutual
/-- nested at most n deep, no dicts, no objects, plain texts -/
def fit : Nat → Val → Bool
  | _, .non => true
  | _, .bl _ => true
  | _, .int _ => true
  | _, .str s => PyData.strOk s
  | n + 1, .tup xs => fits n xs
  | n + 1, .lst xs => fits n xs
  | _, _ => false
def fits : Nat → List Val → Bool
  | _, [] => true
  | n, x :: xs => fit n x && fits n xs
end
def scalV : Val → Bool
  | .non => true | .bl _ => true | .int _ => true | .str _ => true | _ => false
def veq (a b : Val) : Option Bool := match a, b with
  | .int i, .int j => some (i == j)
  | .str x, .str y => some (x == y)
  | .non, .non => some true
  | _, _ => if fit 60 a && fit 60 b then some (veqB a b) else none
/-- x in a row of flat things -/
def vin (x : Val) (xs : List Val) : Option Bool := if scalV x && xs.all scalV then some (xs.any fun y => veqB y x) else none
def keyOf : Val → Option Key
  | .int i => some (.inl i)
  | .str s => some (.inr s)
  | _ => none
def dget (kvs : List (Key × Val)) (k : Key) : Option Val := (kvs.find? fun kv => decide (kv.1 = k)).map (·.2)
def dput (kvs : List (Key × Val)) (k : Key) (v : Val) : List (Key × Val) :=
  if (kvs.any fun kv => decide (kv.1 = k)) = true then kvs.map (fun kv => if kv.1 = k then (kv.1, v) else kv) else kvs ++ [(k, v)]
def sget (kvs : List (Str × Val)) (k : Str) : Option Val := kvs.lookup k
def isSign (s : Str) : Option Nat := match s.cps.toList with
  | [c] => some c
  | _ => none

def cmpop (T : List (List (Str × Val))) : CmpOp → Val → Val → Option Bool
  | .Eq, a, b => veq a b
  | .NotEq, a, b => (veq a b).map (!·)
  | .Lt, .int i, .int j => some (decide (i < j))
  | .LtE, .int i, .int j => some (decide (i ≤ j))
  | .Gt, .int i, .int j => some (decide (j < i))
  | .GtE, .int i, .int j => some (decide (j ≤ i))
  | .Lt, .str i, .str j => some (decide (i.cps.toList < j.cps.toList))
  | .LtE, .str i, .str j => some (!decide (j.cps.toList < i.cps.toList))
  | .Gt, .str i, .str j => some (decide (j.cps.toList < i.cps.toList))
  | .GtE, .str i, .str j => some (!decide (i.cps.toList < j.cps.toList))
  | .Is, .bl a, .bl b => some (decide (a = b))
  | .IsNot, .bl a, .bl b => some (!decide (a = b))
  | .In, x, .tup xs => vin x xs
  | .In, x, .lst xs => vin x xs
  | .NotIn, x, .tup xs => (vin x xs).map (!·)
  | .NotIn, x, .lst xs => (vin x xs).map (!·)
  | .In, x, .dct kvs => match keyOf x with
    | some k => some (dget kvs k).isSome
    | none => none
  | .NotIn, x, .dct kvs => match keyOf x with
    | some k => some (!(dget kvs k).isSome)
    | none => none
  | .In, .str s, .str z => match isSign s with
    | some c => some (decide (c ∈ z.cps.toList))
    | none => none
  | .NotIn, .str s, .str z => match isSign s with
    | some c => some (!decide (c ∈ z.cps.toList))
    | none => none
  | .In, .str s, .kd j => match T[j]? with
    | some kvs => some (sget kvs s).isSome
    | none => none
  | .NotIn, .str s, .kd j => match T[j]? with
    | some kvs => some (!(sget kvs s).isSome)
    | none => none
  | _, _, _ => none
/-- is, is not: beside None first -/
def isNonV : Val → Bool
  | .non => true
  | _ => false
def isop (neg : Bool) (a b : Val) : Option Bool := match b with
  | .non => some (if neg then !isNonV a else isNonV a)
  | .bl b => match a with
    | .bl a => some (if neg then !decide (a = b) else decide (a = b))
    | .non => some neg
    | .int _ => some neg
    | .str _ => some neg
    | .tup _ => some neg
    | _ => none
  | _ => none
def cmpo (T : List (List (Str × Val))) (op : CmpOp) (a b : Val) : Option Bool := match op with
  | .Is => isop false a b
  | .IsNot => isop true a b
  | _ => cmpop T op a b

def item (T : List (List (Str × Val))) : Val → Val → Option Val
  | .tup xs, .int i => atI xs i
  | .lst xs, .int i => atI xs i
  | .scr is, .int i => (atI is i).map Val.int
  | .str z, .int i => if z.length ≤ cap then (atI z.cps.toList i).map fun c => .str ⟨#[c]⟩ else none
  | .dct kvs, x => match keyOf x with
    | some k => dget kvs k
    | none => none
  | .kd j, .str s => match T[j]? with
    | some kvs => sget kvs s
    | none => none
  | _, _ => none
def cutW (xs : List Val) (lo hi : Option Int) : List Val := (xs.drop (HT.sIx xs.length 0 lo)).take (HT.sIx xs.length xs.length hi - HT.sIx xs.length 0 lo)
def slice (x : Val) (lo hi : Option Int) : Option RV := match x with
  | .tup xs => some (.v (.tup (cutW xs lo hi)))
  | .lst xs => some (.o (.lst (cutW xs lo hi)))
  | .scr is => some (.o (.lst (cutW (is.map Val.int) lo hi)))
  | _ => none
def strsOf : List Val → Option (List Str)
  | [] => some []
  | .str s :: xs => match strsOf xs with
    | some r => some (s :: r)
    | none => none
  | _ :: _ => none
def intsOf : List Val → Option (List Int)
  | [] => some []
  | .int s :: xs => match intsOf xs with
    | some r => some (s :: r)
    | none => none
  | _ :: _ => none
def blsOf : List Val → Option (List Bool)
  | [] => some []
  | .bl s :: xs => match blsOf xs with
    | some r => some (s :: r)
    | none => none
  | _ :: _ => none
def itemsOf : Val → Option (List Val)
  | .tup xs => some xs
  | .lst xs => some xs
  | _ => none
def keyV : Key → Val
  | .inl i => .int i
  | .inr s => .str s
/-- the sorted row of texts, by the code points -/
def insS (s : Str) : List Str → List Str
  | [] => [s]
  | t :: ts => if decide (t.cps.toList < s.cps.toList) then t :: insS s ts else s :: t :: ts
def srtS (xs : List Str) : List Str := xs.foldr insS []
def insI (s : Int) : List Int → List Int
  | [] => [s]
  | t :: ts => if t < s then t :: insI s ts else s :: t :: ts
def srtI (xs : List Int) : List Int := xs.foldr insI []

def bLen : List Val → Option RV
  | [.tup xs] => some (.v (.int xs.length))
  | [.lst xs] => some (.v (.int xs.length))
  | [.scr xs] => some (.v (.int xs.length))
  | [.dct kvs] => some (.v (.int kvs.length))
  | [.str s] => if s.length ≤ cap then some (.v (.int s.length)) else none
  | _ => none
def bTup : List Val → Option RV
  | [.lst xs] => some (.v (.tup xs))
  | [.tup xs] => some (.v (.tup xs))
  | _ => none
def bLst : List Val → Option RV
  | [.lst xs] => some (.o (.lst xs))
  | [.tup xs] => some (.o (.lst xs))
  | [.dct kvs] => some (.o (.lst (kvs.map fun kv => keyV kv.1)))
  | _ => none
def bInt : List Val → Option RV
  | [.int i] => some (.v (.int i))
  | [.bl b] => some (.v (.int (if b then 1 else 0)))
  | _ => none
def bAbs : List Val → Option RV
  | [.int i] => some (.v (.int i.natAbs))
  | _ => none
def bDivmod : List Val → Option RV
  | [.int i, .int j] => if isNat31 j then some (.v (.tup [.int (i / j), .int (i % j)])) else none
  | _ => none
def bMax : List Val → Option RV
  | [.int i, .int j] => some (.v (.int (max i j)))
  | _ => none
def bMin : List Val → Option RV
  | [.int i, .int j] => some (.v (.int (min i j)))
  | _ => none
def bSum : List Val → Option RV
  | [.lst xs] => match intsOf xs with
    | some is => some (.v (.int is.sum))
    | none => none
  | _ => none
def bAll : List Val → Option RV
  | [.lst xs] => match blsOf xs with
    | some bs => some (.v (.bl (bs.all id)))
    | none => none
  | _ => none
def bAny : List Val → Option RV
  | [.lst xs] => match blsOf xs with
    | some bs => some (.v (.bl (bs.any id)))
    | none => none
  | _ => none
def bSorted : List Val → Option RV
  | [.lst xs] => match strsOf xs with
    | some ss => if ss.length < 64 then some (.o (.lst ((srtS ss).map .str))) else none
    | none => match intsOf xs with
      | some is => if is.length < 64 then some (.o (.lst ((srtI is).map .int))) else none
      | none => none
  | _ => none
def bJoin : List Val → Option RV
  | [.str z, .lst xs] => match strsOf xs with
    | some ss => if (ss.map (·.length)).sum + ss.length * z.length ≤ cap then some (.v (.str (Txt.join z ss))) else none
    | none => none
  | _ => none
def bGet1 : List Val → Option RV
  | [.dct kvs, x] => match keyOf x with
    | some k => some (.v ((dget kvs k).getD .non))
    | none => none
  | _ => none
def bGet2 : List Val → Option RV
  | [.dct kvs, x, y] => match keyOf x with
    | some k => some (.v ((dget kvs k).getD y))
    | none => none
  | _ => none
/-- built-in functions and methods, by number -/
def blt (b : Nat) (ds : List Val) : Option RV := match b with
  | 0 => bLen ds
  | 1 => bTup ds
  | 2 => bLst ds
  | 3 => bInt ds
  | 4 => bAbs ds
  | 5 => bDivmod ds
  | 6 => bMax ds
  | 7 => bMin ds
  | 8 => bSum ds
  | 9 => bAll ds
  | 10 => bAny ds
  | 11 => bSorted ds
  | 20 => bJoin ds
  | _ => none
/-- isinstance beside a built-in type: 0 int 1 bool 2 str 3 tuple 4 list 5 dict -/
def isBt (n : Nat) : Val → Nat → Option Bool
  | .non, t => if t < 6 then some false else none
  | .bl _, t => if t < 6 then some (t == 0 || t == 1) else none
  | .int _, t => if t < 6 then some (t == 0) else none
  | .str _, t => if t < 6 then some (t == 2) else none
  | .tup _, t => if t < 6 then some (t == 3) else none
  | .lst _, t => if t < 6 then some (t == 4) else none
  | .dct _, t => if t < 6 then some (t == 5) else none
  | .ins c _, t => if t < 6 ∧ c < n then some false else none
  | _, _ => none
def isCt (n : Nat) : Val → Nat → Option Bool
  | .ins c _, d => if c < n ∧ d < n then some (c == d) else none
  | .kd _, _ => none
  | .scr _, _ => none
  | _, d => if d < n then some false else none

/-! ### slots -/
def look (r : RV) (ε : Env) : Option Val := match r with
  | .v d => some d
  | .o d => some d
  | .b i => match ε[i]? with
    | some (.val d) => some d
    | some (.own d) => some d
    | some (.lent d) => some d
    | _ => none
def looks : List RV → Env → Option (List Val)
  | [], _ => some []
  | r :: rs, ε => match look r ε with
    | some d => match looks rs ε with
      | some ds => some (d :: ds)
      | none => none
    | none => none
/-- as a value that never changes from here on -/
def fz (r : RV) (ε : Env) : Option (Val × Env) := match r with
  | .v d => some (d, ε)
  | .o d => some (d, ε)
  | .b i => match ε[i]? with
    | some (.val d) => some (d, ε)
    | some (.own d) => some (d, ε.set i (.val d))
    | _ => none
def put (i : Nat) (s : Slot) (ε : Env) : Option Env := match ε[i]? with
  | some (.lent _) => none
  | some .sh => none
  | some _ => some (ε.set i s)
  | none => none
/-- a name's new value -/
def sto (i : Nat) (r : RV) (ε : Env) : Option Env := match r with
  | .o d => put i (.own d) ε
  | r => match fz r ε with
    | some (d, ε1) => put i (.val d) ε1
    | none => none
/-- the slot of an object of ours is written anew -/
def wrt (r : RV) (d : Val) (ε : Env) : Option Env := match r with
  | .b i => match ε[i]? with
    | some (.own _) => some (ε.set i (.own d))
    | some (.lent _) => some (ε.set i (.lent d))
    | _ => none
  | _ => none
def argOf (r : RV) (ε : Env) : Option Arg := match r with
  | .v d => some (.val d)
  | .o d => some (.lent d)
  | .b i => match ε[i]? with
    | some (.val d) => some (.val d)
    | some (.own d) => some (.lent d)
    | some (.lent d) => some (.lent d)
    | _ => none
def argsOf : List RV → Env → Option (List Arg)
  | [], _ => some []
  | r :: rs, ε => match argOf r ε with
    | some a => match argsOf rs ε with
      | some as => some (a :: as)
      | none => none
    | none => none
/-- the slots that are lent -/
def lentIx : List RV → Env → List Nat
  | [], _ => []
  | .b i :: rs, ε => match ε[i]? with
    | some (.own _) => i :: lentIx rs ε
    | some (.lent _) => i :: lentIx rs ε
    | _ => lentIx rs ε
  | _ :: rs, ε => lentIx rs ε
/-- what a callee made of them -/
def back : List RV → List Val → Env → Env
  | .b i :: rs, d :: ds, ε => match ε[i]? with
    | some (.own _) => back rs ds (ε.set i (.own d))
    | some (.lent _) => back rs ds (ε.set i (.lent d))
    | _ => back rs ds ε
  | _ :: rs, _ :: ds, ε => back rs ds ε
  | _, _, ε => ε
def nodupB : List Nat → Bool
  | [] => true
  | x :: xs => !xs.contains x && nodupB xs
def doCall (f : List Arg → Option (RV × List Val)) (rs : List RV) (ε : Env) : Option (RV × Env) := match argsOf rs ε with
  | some as => if nodupB (lentIx rs ε) then match f as with
      | some (r, ds) => some (r, back rs ds ε)
      | none => none
    else none
  | none => none
def wipeE (ε : Env) : List Nat → Env
  | [] => ε
  | i :: is => (wipeE ε is).set i .un
/-- the block's own slots as they were -/
def restE (ε ε' : Env) : List Nat → Env
  | [] => ε'
  | i :: is => match ε[i]? with
    | some s => (restE ε ε' is).set i s
    | none => restE ε ε' is
def tgs : List Nat → Val → Env → Option Env
  | [i], d, ε => put i (.val d) ε
  | is, .tup xs, ε => if is.length = xs.length then go is xs ε else none
  | _, _, _ => none
where go : List Nat → List Val → Env → Option Env
  | i :: is, x :: xs, ε => match put i (.val x) ε with
    | some ε1 => go is xs ε1
    | none => none
  | [], [], ε => some ε
  | _, _, _ => none
def rangeV (lo hi : Int) : List Val := (List.range (hi - lo).toNat).map fun (k : Nat) => Val.int (lo + (k : Int))
def inR (i : Int) : Bool := decide (-1000000 ≤ i) && decide (i ≤ 1000000)
def enumV (n : Nat) : List Val → List Val
  | [] => []
  | x :: xs => .tup [.int n, x] :: enumV (n + 1) xs
def zipV : List Val → List Val → List Val
  | x :: xs, y :: ys => .tup [x, y] :: zipV xs ys
  | _, _ => []
def zipD : Val → Val → Option (List Val)
  | .tup xs, .tup ys => some (zipV xs ys)
  | .lst xs, .lst ys => some (zipV xs ys)
  | _, _ => none
def signsV (s : Str) : List Val := s.cps.toList.map fun c => .str ⟨#[c]⟩
/-- what is walked, by turns -/
def walkV : Val → Option (List Val)
  | .tup xs => some xs
  | .lst xs => some xs
  | .scr is => some (is.map Val.int)
  | .str s => if s.length ≤ cap then some (signsV s) else none
  | _ => none
/-- a slot that is walked is shut meanwhile -/
def shut (r : RV) (ε : Env) : Env := match r with
  | .b i => match ε[i]? with
    | some (.own _) => ε.set i .sh
    | some (.lent _) => ε.set i .sh
    | _ => ε
  | _ => ε
def reopen (r : RV) (ε ε' : Env) : Env := match r with
  | .b i => match ε[i]? with
    | some (.own d) => ε'.set i (.own d)
    | some (.lent d) => ε'.set i (.lent d)
    | _ => ε'
  | _ => ε'

/-! ### expressions -/
def lcLoop (tg : List Nat) (own : List Nat) (test : Env → Option (Bool × Env)) (elt : Env → Option (Val × Env)) : List Val → Env → List Val → Option (List Val × Env)
  | [], ε, acc => some (acc, ε)
  | x :: xs, ε, acc => match tgs tg x (wipeE ε own) with
    | none => none
    | some ε1 => match test ε1 with
      | none => none
      | some (false, ε2) => lcLoop tg own test elt xs ε2 acc
      | some (true, ε2) => match elt ε2 with
        | none => none
        | some (y, ε3) => if acc.length < cap then lcLoop tg own test elt xs ε3 (acc ++ [y]) else none
def dcLoop (tg : List Nat) (own : List Nat) (test : Env → Option (Bool × Env)) (elt : Env → Option ((Key × Val) × Env)) : List Val → Env → List (Key × Val) → Option (List (Key × Val) × Env)
  | [], ε, acc => some (acc, ε)
  | x :: xs, ε, acc => match tgs tg x (wipeE ε own) with
    | none => none
    | some ε1 => match test ε1 with
      | none => none
      | some (false, ε2) => dcLoop tg own test elt xs ε2 acc
      | some (true, ε2) => match elt ε2 with
        | none => none
        | some (y, ε3) => if acc.length < cap then dcLoop tg own test elt xs ε3 (dput acc y.1 y.2) else none
def ofBl : Option (Bool) → Env → Option (RV × Env)
  | some b, ε => some (.v (.bl b), ε)
  | none, _ => none
def ofV : Option Val → Env → Option (RV × Env)
  | some b, ε => some (.v b, ε)
  | none, _ => none
def ofR : Option RV → Env → Option (RV × Env)
  | some b, ε => some (b, ε)
  | none, _ => none
def clsOf (D : Tbl) (m : Str) : Val → Option Nat
  | .ins c fs => match fs.lookup m with
    | some _ => none
    | none => match D.cls[c]? with
      | some C => C.meths.lookup m
      | none => none
  | _ => none
def hasFld (D : Tbl) (c : Nat) (f : Str) : Bool := match D.cls[c]? with
  | some C => C.flds.contains f
  | none => false
def fldOf (D : Tbl) (f : Str) : Val → Option Val
  | .ins c fs => if hasFld D c f then fs.lookup f else none
  | _ => none
def mkI (D : Tbl) (F : FT) (c : Nat) (rs : List RV) (ε : Env) : Option (RV × Env) := match D.cls[c]? with
  | none => none
  | some C => match argsOf rs ε with
    | none => none
    | some as => if nodupB (lentIx rs ε) then match F C.init (.lent (.ins c []) :: as) with
        | some (.v .non, d :: ds) => some (if C.frozen then .v d else .o d, back rs ds ε)
        | _ => none
      else none
def intO : Option Val → Option (Option Int)
  | none => some none
  | some (.int i) => some (some i)
  | _ => none

def isLst : Option Val → Bool
  | some (.lst _) => true
  | _ => false
def isDct : Option Val → Bool
  | some (.dct _) => true
  | _ => false
/-- a value from here on; its truth; a bool -/
def vlR : Option (RV × Env) → Option (Val × Env)
  | some (r, ε) => fz r ε
  | none => none
def truR (r : RV) (ε : Env) : Option Bool := match look r ε with
  | some d => tru d
  | none => none
def tsR : Option (RV × Env) → Option (Bool × Env)
  | some (r, ε) => match truR r ε with
    | some b => some (b, ε)
    | none => none
  | none => none
def blR : Option (RV × Env) → Option (Bool × Env)
  | some (r, ε) => match look r ε with
    | some (.bl b) => some (b, ε)
    | _ => none
  | none => none
def ivR : Option (RV × Env) → Option (Int × Env)
  | some (r, ε) => match look r ε with
    | some (.int b) => some (b, ε)
    | _ => none
  | none => none

section
variable (D : Tbl) (F : FT)
mutual
def evE : E → Env → Option (RV × Env)
  | .lit d, ε => some (.v d, ε)
  | .var i, ε => match look (.b i) ε with
    | some _ => some (.b i, ε)
    | none => none
  | .tup es, ε => match evF es ε with
    | some (ds, ε1) => some (.v (.tup ds), ε1)
    | none => none
  | .lst es, ε => match evF es ε with
    | some (ds, ε1) => some (.o (.lst ds), ε1)
    | none => none
  | .dsp ps, ε => match evD ps ε [] with
    | some (kvs, ε1) => some (.o (.dct kvs), ε1)
    | none => none
  | .bin op a b, ε => match evE a ε with
    | some (x, ε1) => match evE b ε1 with
      | some (y, ε2) => match look x ε2, look y ε2 with
        | some d, some e => ofR (binop op d e) ε2
        | _, _ => none
      | none => none
    | none => none
  | .neg a, ε => match ivR (evE a ε) with
    | some (i, ε1) => some (.v (.int (-i)), ε1)
    | none => none
  | .cmp op a b, ε => match evE a ε with
    | some (x, ε1) => match evE b ε1 with
      | some (y, ε2) => match look x ε2, look y ε2 with
        | some d, some e => ofBl (cmpo D.kds op d e) ε2
        | _, _ => none
      | none => none
    | none => none
  | .chn op op' a b c, ε => match evE a ε with
    | some (x, ε1) => match evE b ε1 with
      | some (y, ε2) => match look x ε2, look y ε2 with
        | some d, some e => match cmpo D.kds op d e with
          | some false => some (.v (.bl false), ε2)
          | some true => match evE c ε2 with
            | some (z, ε3) => match look y ε3, look z ε3 with
              | some e', some g => ofBl (cmpo D.kds op' e' g) ε3
              | _, _ => none
            | none => none
          | none => none
        | _, _ => none
      | none => none
    | none => none
  | .and2 a b, ε => match evE a ε with
    | some (r, ε1) => match truR r ε1 with
      | some false => some (r, ε1)
      | some true => evE b ε1
      | none => none
    | none => none
  | .or2 a b, ε => match evE a ε with
    | some (r, ε1) => match truR r ε1 with
      | some true => some (r, ε1)
      | some false => evE b ε1
      | none => none
    | none => none
  | .not a, ε => match tsR (evE a ε) with
    | some (b, ε1) => some (.v (.bl (!b)), ε1)
    | none => none
  | .ife c a b, ε => match tsR (evE c ε) with
    | some (true, ε1) => evE a ε1
    | some (false, ε1) => evE b ε1
    | none => none
  | .ix a i, ε => match evE a ε with
    | some (x, ε1) => match evE i ε1 with
      | some (y, ε2) => match look x ε2, look y ε2 with
        | some d, some e => ofV (item D.kds d e) ε2
        | _, _ => none
      | none => none
    | none => none
  | .slc a lo hi, ε => match evE a ε with
    | some (x, ε1) => match evO lo ε1 with
      | some (l, ε2) => match evO hi ε2 with
        | some (h, ε3) => match look x ε3 with
          | some d => ofR (slice d l h) ε3
          | none => none
        | none => none
      | none => none
    | none => none
  | .fld a f, ε => match evE a ε with
    | some (x, ε1) => match look x ε1 with
      | some d => ofV (fldOf D f d) ε1
      | none => none
    | none => none
  | .call f as, ε => match evA as ε with
    | some (rs, ε1) => doCall (F f) rs ε1
    | none => none
  | .meth m r as, ε => match evE r ε with
    | some (x, ε1) => match look x ε1 with
      | some d => match clsOf D m d with
        | some f => match evA as ε1 with
          | some (rs, ε2) => doCall (F f) (x :: rs) ε2
          | none => none
        | none => none
      | none => none
    | none => none
  | .make c as, ε => match evA as ε with
    | some (rs, ε1) => mkI D F c rs ε1
    | none => none
  | .blt b as, ε => match evA as ε with
    | some (rs, ε1) => match looks rs ε1 with
      | some ds => ofR (blt b ds) ε1
      | none => none
    | none => none
  | .dget1 a k, ε => match evE a ε with
    | some (x, ε1) => if isDct (look x ε1) then match evE k ε1 with
        | some (y, ε2) => match look x ε2, look y ε2 with
          | some d, some e => ofR (bGet1 [d, e]) ε2
          | _, _ => none
        | none => none
      else none
    | none => none
  | .dget2 a k z, ε => match evE a ε with
    | some (x, ε1) => if isDct (look x ε1) then match evE k ε1 with
        | some (y, ε2) => match vlR (evE z ε2) with
          | some (g, ε3) => match look x ε3, look y ε3 with
            | some d, some e => ofR (bGet2 [d, e, g]) ε3
            | _, _ => none
          | none => none
        | none => none
      else none
    | none => none
  | .isB a t, ε => match evE a ε with
    | some (x, ε1) => match look x ε1 with
      | some d => ofBl (isBt D.cls.length d t) ε1
      | none => none
    | none => none
  | .isC a c, ε => match evE a ε with
    | some (x, ε1) => match look x ε1 with
      | some d => ofBl (isCt D.cls.length d c) ε1
      | none => none
    | none => none
  | .lc elt tg it ifs own, ε => match evI it ε with
    | none => none
    | some (r, xs, ε1) => match lcLoop tg own (evTs ifs) (fun ε => vlR (evE elt ε)) xs (shut r ε1) [] with
      | some (ys, ε2) => some (.o (.lst ys), reopen r ε1 (restE (shut r ε1) ε2 own))
      | none => none
  | .dc k v tg it ifs own, ε => match evI it ε with
    | none => none
    | some (r, xs, ε1) => match dcLoop tg own (evTs ifs) (fun ε => match vlR (evE k ε) with
        | some (d, ε1) => match keyOf d with
          | some k => match vlR (evE v ε1) with
            | some (x, ε2) => some ((k, x), ε2)
            | none => none
          | none => none
        | none => none) xs (shut r ε1) [] with
      | some (ys, ε2) => some (.o (.dct ys), reopen r ε1 (restE (shut r ε1) ε2 own))
      | none => none
/-- several, each a value from here on -/
def evF : Es → Env → Option (List Val × Env)
  | .nil, ε => some ([], ε)
  | .cons e es, ε => match vlR (evE e ε) with
    | some (d, ε1) => match evF es ε1 with
      | some (ds, ε2) => some (d :: ds, ε2)
      | none => none
    | none => none
/-- several, as they are -/
def evA : Es → Env → Option (List RV × Env)
  | .nil, ε => some ([], ε)
  | .cons e es, ε => match evE e ε with
    | some (d, ε1) => match evA es ε1 with
      | some (ds, ε2) => some (d :: ds, ε2)
      | none => none
    | none => none
def evD : Es → Env → List (Key × Val) → Option (List (Key × Val) × Env)
  | .nil, ε, acc => some (acc, ε)
  | .cons k (.cons v ps), ε, acc => match vlR (evE k ε) with
    | some (d, ε1) => match keyOf d with
      | some k => match vlR (evE v ε1) with
        | some (x, ε2) => evD ps ε2 (dput acc k x)
        | none => none
      | none => none
    | none => none
  | _, _, _ => none
def evO : OE → Env → Option (Option Int × Env)
  | .no, ε => some (none, ε)
  | .so e, ε => match ivR (evE e ε) with
    | some (i, ε1) => some (some i, ε1)
    | none => none
def evTs : Es → Env → Option (Bool × Env)
  | .nil, ε => some (true, ε)
  | .cons e .nil, ε => tsR (evE e ε)
  | _, _ => none
def evI : It → Env → Option (RV × List Val × Env)
  | .seq e, ε => match evE e ε with
    | some (x, ε1) => match look x ε1 with
      | some d => match walkV d with
        | some xs => some (x, xs, ε1)
        | none => none
      | none => none
    | none => none
  | .rng1 e, ε => match ivR (evE e ε) with
    | some (i, ε1) => if inR i then some (.v .non, rangeV 0 i, ε1) else none
    | none => none
  | .rng2 a b, ε => match ivR (evE a ε) with
    | some (i, ε1) => match ivR (evE b ε1) with
      | some (j, ε2) => if inR i && inR j then some (.v .non, rangeV i j, ε2) else none
      | none => none
    | none => none
  | .enum e, ε => match vlR (evE e ε) with
    | some (d, ε1) => match itemsOf d with
      | some xs => some (.v .non, enumV 0 xs, ε1)
      | none => none
    | none => none
  | .zip a b, ε => match vlR (evE a ε) with
    | some (d, ε1) => match vlR (evE b ε1) with
      | some (e, ε2) => match zipD d e with
        | some zs => some (.v .non, zs, ε2)
        | none => none
      | none => none
    | none => none
end
/-! ### statements -/
inductive Out where
  | nx | rt (r : RV) | bk | ct
  deriving Inhabited
def loopF (body : Val → Env → Option (Out × Env)) : List Val → Env → Option (Out × Env)
  | [], ε => some (.nx, ε)
  | x :: xs, ε => match body x ε with
    | some (.nx, ε1) => loopF body xs ε1
    | some (.ct, ε1) => loopF body xs ε1
    | some (.bk, ε1) => some (.nx, ε1)
    | some (.rt r, ε1) => some (.rt r, ε1)
    | none => none
def whileF (test : Env → Option (Bool × Env)) (body : Env → Option (Out × Env)) : Nat → Env → Option (Out × Env)
  | 0, _ => none
  | n + 1, ε => match test ε with
    | some (false, ε1) => some (.nx, ε1)
    | some (true, ε1) => match body ε1 with
      | some (.nx, ε2) => whileF test body n ε2
      | some (.ct, ε2) => whileF test body n ε2
      | some (.bk, ε2) => some (.nx, ε2)
      | some (.rt r, ε2) => some (.rt r, ε2)
      | none => none
    | none => none
def mv (r : RV) (ε : Env) : Option (RV × Env) := match r with
  | .b i => match ε[i]? with
    | some (.val d) => some (.v d, ε)
    | some (.own d) => some (.o d, ε.set i .un)
    | _ => none
  | r => some (r, ε)
/-- x[i] = v in an object of ours -/
def setItem (d i v : Val) : Option Val := match d with
  | .lst xs => match i with
    | .int k => match ixN xs.length k with
      | some n => some (.lst (xs.set n v))
      | none => none
    | _ => none
  | .dct kvs => match keyOf i with
    | some k => if kvs.length < cap then some (.dct (dput kvs k v)) else none
    | none => none
  | _ => none
def putFld (f : Str) (v : Val) : List (Str × Val) → List (Str × Val)
  | [] => [(f, v)]
  | (g, x) :: r => if g = f then (g, v) :: r else (g, x) :: putFld f v r
def setFld (D : Tbl) (f : Str) (v : Val) : Val → Option Val
  | .ins c fs => if hasFld D c f then if fs.length < 100 then some (.ins c (putFld f v fs)) else none else none
  | _ => none
def stos : List Nat → List Val → Env → Option Env
  | i :: is, d :: ds, ε => match put i (.val d) ε with
    | some ε1 => stos is ds ε1
    | none => none
  | [], [], ε => some ε
  | _, _, _ => none
/-- several at once: each a value or a new object -/
def parR (r : RV) (ε : Env) : Option Slot := match r with
  | .v d => some (.val d)
  | .o d => some (.own d)
  | .b i => match ε[i]? with
    | some (.val d) => some (.val d)
    | _ => none
def parS : List RV → Env → Option (List Slot)
  | [], _ => some []
  | r :: rs, ε => match parR r ε with
    | some s => match parS rs ε with
      | some ss => some (s :: ss)
      | none => none
    | none => none
def stosP : List Nat → List Slot → Env → Option Env
  | i :: is, s :: ss, ε => match put i s ε with
    | some ε1 => stosP is ss ε1
    | none => none
  | [], [], ε => some ε
  | _, _, _ => none
def tgV : Tg → Val → Env → Option Env
  | .nm i, d, ε => put i (.val d) ε
  | .sub o i, d, ε => match evE D F o ε with
    | some (x, ε1) => match evE D F i ε1 with
      | some (y, ε2) => match look x ε2, look y ε2 with
        | some o, some k => match setItem o k d with
          | some o' => wrt x o' ε2
          | none => none
        | _, _ => none
      | none => none
    | none => none
def tgsV : List Tg → List Val → Env → Option Env
  | t :: ts, d :: ds, ε => match tgV D F t d ε with
    | some ε1 => tgsV ts ds ε1
    | none => none
  | [], [], ε => some ε
  | _, _, _ => none
mutual
def exS : S → Env → Option (Out × Env)
  | .exp e, ε => match evE D F e ε with
    | some (_, ε1) => some (.nx, ε1)
    | none => none
  | .asg i e, ε => match evE D F e ε with
    | some (r, ε1) => match sto i r ε1 with
      | some ε2 => some (.nx, ε2)
      | none => none
    | none => none
  | .asgT ts e, ε => match vlR (evE D F e ε) with
    | some (.tup ds, ε1) => if ds.length = ts.length then match tgsV D F ts ds ε1 with
        | some ε2 => some (.nx, ε2)
        | none => none
      else none
    | _ => none
  | .par is es, ε => match evA D F es ε with
    | some (rs, ε1) => match parS rs ε1 with
      | some ss => match stosP is ss ε1 with
        | some ε2 => some (.nx, ε2)
        | none => none
      | none => none
    | none => none
  | .fldS o f e, ε => match vlR (evE D F e ε) with
    | some (v, ε1) => match evE D F o ε1 with
      | some (x, ε2) => match look x ε2 with
        | some d => match setFld D f v d with
          | some d' => match wrt x d' ε2 with
            | some ε3 => some (.nx, ε3)
            | none => none
          | none => none
        | none => none
      | none => none
    | none => none
  | .subS o i e, ε => match vlR (evE D F e ε) with
    | some (v, ε1) => match tgV D F (.sub o i) v ε1 with
      | some ε2 => some (.nx, ε2)
      | none => none
    | none => none
  | .app i e, ε => if isLst (look (.b i) ε) then match vlR (evE D F e ε) with
      | some (v, ε1) => match look (.b i) ε1 with
        | some (.lst xs) => if xs.length < cap then match wrt (.b i) (.lst (xs ++ [v])) ε1 with
            | some ε2 => some (.nx, ε2)
            | none => none
          else none
        | _ => none
      | none => none
    else none
  | .ife c a b, ε => match tsR (evE D F c ε) with
    | some (true, ε1) => exB a ε1
    | some (false, ε1) => exB b ε1
    | none => none
  | .for_ tg it body, ε => match evI D F it ε with
    | some (r, xs, ε1) => match loopF (fun x ε => match tgs tg x ε with
        | some ε1 => exB body ε1
        | none => none) xs (shut r ε1) with
      | some (o, ε2) => some (o, reopen r ε1 ε2)
      | none => none
    | none => none
  | .while_ c body, ε => whileF (fun ε => tsR (evE D F c ε)) (fun ε => exB body ε) D.wf ε
  | .ret e, ε => match evE D F e ε with
    | some (r, ε1) => match mv r ε1 with
      | some (r2, ε2) => some (.rt r2, ε2)
      | none => none
    | none => none
  | .retN, ε => some (.rt (.v .non), ε)
  | .bad, _ => none
  | .pass, ε => some (.nx, ε)
  | .brk, ε => some (.bk, ε)
  | .cont, ε => some (.ct, ε)
def exB : Ss → Env → Option (Out × Env)
  | .nil, ε => some (.nx, ε)
  | .cons s ss, ε => match exS s ε with
    | some (.nx, ε1) => exB ss ε1
    | r => r
end
end
/-! ### functions -/
def slotOf : Arg → Slot
  | .val v => .val v
  | .lent v => .lent v
/-- what the arguments have become -/
def outsOf : List Arg → Env → Option (List Val)
  | [], _ => some []
  | .val v :: as, _ :: ε => match outsOf as ε with
    | some ds => some (v :: ds)
    | none => none
  | .lent _ :: as, .lent d :: ε => match outsOf as ε with
    | some ds => some (d :: ds)
    | none => none
  | _, _ => none
def startE (r : FnR) (as : List Arg) : Env := as.map slotOf ++ List.replicate (r.ns - as.length) .un
def runFn (D : Tbl) (F : FT) (r : FnR) (as : List Arg) : Option (RV × List Val) :=
  if as.length = r.np then match exB D F r.body (startE r as) with
    | some (.rt x, ε) => match outsOf as ε with
      | some ds => some (x, ds)
      | none => none
    | some (.nx, ε) => match outsOf as ε with
      | some ds => some (.v .non, ds)
      | none => none
    | _ => none
  else none
def Fk (D : Tbl) : Nat → FT
  | 0 => fun _ _ => none
  | k + 1 => fun f as => match D.fns[f]? with
    | some r => runFn D (Fk D k) r as
    | none => none
end Eng
end
section
set_option Elab.async false
set_option linter.all false
set_option maxRecDepth 100000
/-! EB: how trees lie in the abstract heap; steps of the heap; what an expression's meaning promises. -/
namespace Eng
open PySem PySem.Spec PyProof.Rows L2

/-- what the written part gives: classes, written dicts -/
structure Wr where
  K : PySem.W.Frag
  C : Nat → Addr
  kd : Nat → Addr

abbrev Sub (G H : Hp) : Prop := ∀ a o, G a = some o → H a = some o
theorem Sub.refl (G : Hp) : Sub G G := fun _ _ e => e
theorem Sub.trans {A B C : Hp} (h : Sub A B) (k : Sub B C) : Sub A C := fun a o e => k a o (h a o e)
theorem sub_upd {G : Hp} {a : Addr} {o : HO} (h : G a = none) : Sub G (upd G a o) := fun b u e => by
  rw [upd_ne (ne_of_none e h)]; exact e

section
variable (W : Wr)
mutual
inductive Rep (G : Hp) : Val → V → Prop
  | non : Rep G .non .non
  | bl (b : Bool) : Rep G (.bl b) (.bl b)
  | int (i : Int) : Rep G (.int i) (.int i)
  | str (s : Str) : Rep G (.str s) (.str s)
  | tup {a : Addr} {ds : List Val} {vs : List V} : SqT W.K G a vs → Reps G ds vs → Rep G (.tup ds) (.ref a)
  | lst {a : Addr} {ds : List Val} {vs : List V} : G a = some (.lst vs) → Reps G ds vs → Rep G (.lst ds) (.ref a)
  | dct {a : Addr} {ds : List (Key × Val)} {vs : List (Key × V)} : G a = some (.dK vs) → RepK G ds vs → Rep G (.dct ds) (.ref a)
  | ins {c : Nat} {a dx : Addr} {ds : List (Str × Val)} {vs : List (Str × V)} : G a = some (.ins (W.C c) dx vs) → RepF G ds vs → Rep G (.ins c ds) (.ref a)
  | kd (j : Nat) : Rep G (.kd j) (.ref (W.kd j))
  | scr {a : Addr} {is : List Int} : SqL W.K G a (is.map V.int) → Rep G (.scr is) (.ref a)
inductive Reps (G : Hp) : List Val → List V → Prop
  | nil : Reps G [] []
  | cons {d : Val} {v : V} {ds : List Val} {vs : List V} : Rep G d v → Reps G ds vs → Reps G (d :: ds) (v :: vs)
inductive RepK (G : Hp) : List (Key × Val) → List (Key × V) → Prop
  | nil : RepK G [] []
  | cons {k : Key} {d : Val} {v : V} {ds : List (Key × Val)} {vs : List (Key × V)} : Rep G d v → RepK G ds vs → RepK G ((k, d) :: ds) ((k, v) :: vs)
inductive RepF (G : Hp) : List (Str × Val) → List (Str × V) → Prop
  | nil : RepF G [] []
  | cons {k : Str} {d : Val} {v : V} {ds : List (Str × Val)} {vs : List (Str × V)} : Rep G d v → RepF G ds vs → RepF G ((k, d) :: ds) ((k, v) :: vs)
end
end

theorem rd_mono {G G' : Hp} (s : Sub G G') {a : Addr} {u : HO} (r : Rd G a u) : Rd G' a u := by
  rcases r with r | ⟨o, r⟩
  · exact .inl (s _ _ r)
  · exact .inr ⟨o, s _ _ r⟩
theorem sqt_mono {K : PySem.W.Frag} {G G' : Hp} (s : Sub G G') {a : Addr} {vs : List V} (r : SqT K G a vs) : SqT K G' a vs := by
  rcases r with r | r
  · exact .inl (rd_mono s r)
  · exact .inr r
theorem sql_mono {K : PySem.W.Frag} {G G' : Hp} (s : Sub G G') {a : Addr} {vs : List V} (r : SqL K G a vs) : SqL K G' a vs := by
  rcases r with r | r
  · exact .inl (rd_mono s r)
  · exact .inr r

section
variable {W : Wr} {G G' H H' : Hp}
mutual
theorem Rep.mono (s : Sub G G') : ∀ {d : Val} {v : V}, Rep W G d v → Rep W G' d v
  | _, _, .non => .non
  | _, _, .bl b => .bl b
  | _, _, .int b => .int b
  | _, _, .str b => .str b
  | _, _, .tup q r => .tup (sqt_mono s q) (Reps.mono s r)
  | _, _, .lst q r => .lst (s _ _ q) (Reps.mono s r)
  | _, _, .dct q r => .dct (s _ _ q) (RepK.mono s r)
  | _, _, .ins q r => .ins (s _ _ q) (RepF.mono s r)
  | _, _, .kd j => .kd j
  | _, _, .scr q => .scr (sql_mono s q)
theorem Reps.mono (s : Sub G G') : ∀ {d : List Val} {v : List V}, Reps W G d v → Reps W G' d v
  | _, _, .nil => .nil
  | _, _, .cons q r => .cons (Rep.mono s q) (Reps.mono s r)
theorem RepK.mono (s : Sub G G') : ∀ {d : List (Key × Val)} {v : List (Key × V)}, RepK W G d v → RepK W G' d v
  | _, _, .nil => .nil
  | _, _, .cons q r => .cons (Rep.mono s q) (RepK.mono s r)
theorem RepF.mono (s : Sub G G') : ∀ {d : List (Str × Val)} {v : List (Str × V)}, RepF W G d v → RepF W G' d v
  | _, _, .nil => .nil
  | _, _, .cons q r => .cons (Rep.mono s q) (RepF.mono s r)
end

theorem Reps.length : ∀ {ds : List Val} {vs : List V}, Reps W G ds vs → ds.length = vs.length
  | _, _, .nil => rfl
  | _, _, .cons _ r => by simp [Reps.length r]
theorem Reps.get : ∀ {ds : List Val} {vs : List V} {i : Nat} {d : Val}, Reps W G ds vs → ds[i]? = some d → ∃ v, vs[i]? = some v ∧ Rep W G d v
  | _, _, _, _, .nil, e => by simp at e
  | _, _, 0, _, .cons q _, e => by simp at e; subst e; exact ⟨_, rfl, q⟩
  | _, _, i + 1, _, .cons _ r, e => by
    obtain ⟨v, h1, h2⟩ := Reps.get (i := i) r (by simpa using e)
    exact ⟨v, by simpa using h1, h2⟩
theorem Reps.append : ∀ {ds es : List Val} {vs us : List V}, Reps W G ds vs → Reps W G es us → Reps W G (ds ++ es) (vs ++ us)
  | _, _, _, _, .nil, s => s
  | _, _, _, _, .cons q r, s => .cons q (Reps.append r s)
theorem Reps.take : ∀ {ds : List Val} {vs : List V} (n : Nat), Reps W G ds vs → Reps W G (ds.take n) (vs.take n)
  | _, _, 0, _ => .nil
  | _, _, _ + 1, .nil => .nil
  | _, _, n + 1, .cons q r => .cons q (Reps.take n r)
theorem Reps.drop : ∀ {ds : List Val} {vs : List V} (n : Nat), Reps W G ds vs → Reps W G (ds.drop n) (vs.drop n)
  | _, _, 0, r => r
  | _, _, _ + 1, .nil => .nil
  | _, _, n + 1, .cons _ r => Reps.drop n r
theorem Reps.set {d : Val} {v : V} (q : Rep W G d v) : ∀ {ds : List Val} {vs : List V} (n : Nat), Reps W G ds vs → Reps W G (ds.set n d) (vs.set n v)
  | _, _, _, .nil => .nil
  | _, _, 0, .cons _ r => .cons q r
  | _, _, n + 1, .cons p r => .cons p (Reps.set q n r)
theorem Reps.isEmpty : ∀ {ds : List Val} {vs : List V}, Reps W G ds vs → ds.isEmpty = vs.isEmpty
  | _, _, .nil => rfl
  | _, _, .cons _ _ => rfl
theorem Reps.of_ints : ∀ {ds : List Val} {vs : List V} {is : List Int}, Reps W G ds vs → intsOf ds = some is → vs = is.map V.int
  | _, _, is, .nil, e => by simp [intsOf] at e; subst e; rfl
  | d :: ds, v :: vs, is, .cons q r, e => by
    cases q <;> simp only [intsOf] at e <;> try (cases e; done)
    split at e
    · rename_i r' e'
      cases e
      rw [Reps.of_ints r e']; rfl
    · cases e
theorem Reps.of_strs : ∀ {ds : List Val} {vs : List V} {is : List Str}, Reps W G ds vs → strsOf ds = some is → vs = is.map V.str
  | _, _, is, .nil, e => by simp [strsOf] at e; subst e; rfl
  | d :: ds, v :: vs, is, .cons q r, e => by
    cases q <;> simp only [strsOf] at e <;> try (cases e; done)
    split at e
    · rename_i r' e'
      cases e
      rw [Reps.of_strs r e']; rfl
    · cases e
theorem Reps.of_bls : ∀ {ds : List Val} {vs : List V} {is : List Bool}, Reps W G ds vs → blsOf ds = some is → vs = is.map V.bl
  | _, _, is, .nil, e => by simp [blsOf] at e; subst e; rfl
  | d :: ds, v :: vs, is, .cons q r, e => by
    cases q <;> simp only [blsOf] at e <;> try (cases e; done)
    split at e
    · rename_i r' e'
      cases e
      rw [Reps.of_bls r e']; rfl
    · cases e
theorem Reps.ints (G : Hp) : ∀ is : List Int, Reps W G (is.map Val.int) (is.map V.int)
  | [] => .nil
  | i :: is => .cons (.int i) (Reps.ints G is)
theorem Reps.strs (G : Hp) : ∀ is : List Str, Reps W G (is.map Val.str) (is.map V.str)
  | [] => .nil
  | i :: is => .cons (.str i) (Reps.strs G is)
theorem RepK.length : ∀ {ds : List (Key × Val)} {vs : List (Key × V)}, RepK W G ds vs → ds.length = vs.length
  | _, _, .nil => rfl
  | _, _, .cons _ r => by simp [RepK.length r]
theorem RepK.keys : ∀ {ds : List (Key × Val)} {vs : List (Key × V)}, RepK W G ds vs → ds.map (·.1) = vs.map (·.1)
  | _, _, .nil => rfl
  | _, _, .cons _ r => by simp [RepK.keys r]
theorem RepK.isEmpty : ∀ {ds : List (Key × Val)} {vs : List (Key × V)}, RepK W G ds vs → ds.isEmpty = vs.isEmpty
  | _, _, .nil => rfl
  | _, _, .cons _ _ => rfl
theorem RepK.get : ∀ {ds : List (Key × Val)} {vs : List (Key × V)} (k : Key), RepK W G ds vs → (dget ds k = none ∧ valV vs k = none) ∨ ∃ d v, dget ds k = some d ∧ valV vs k = some v ∧ Rep W G d v
  | _, _, _, .nil => .inl ⟨rfl, rfl⟩
  | _, _, k, .cons (k := k') q r => by
    unfold dget valV
    by_cases e : k' = k
    · subst e
      exact .inr ⟨_, _, by simp, by simp, q⟩
    · have := RepK.get k r
      unfold dget valV at this
      simpa [e] using this
theorem RepK.append : ∀ {ds es : List (Key × Val)} {vs us : List (Key × V)}, RepK W G ds vs → RepK W G es us → RepK W G (ds ++ es) (vs ++ us)
  | _, _, _, _, .nil, s => s
  | _, _, _, _, .cons q r, s => .cons q (RepK.append r s)
theorem RepK.any : ∀ {ds : List (Key × Val)} {vs : List (Key × V)} (k : Key), RepK W G ds vs → (ds.any fun kv => decide (kv.1 = k)) = (vs.any fun kv => decide (kv.1 = k))
  | _, _, _, .nil => rfl
  | _, _, k, .cons _ r => by simp [RepK.any k r]
theorem RepK.repl {k : Key} {d : Val} {v : V} (q : Rep W G d v) : ∀ {ds : List (Key × Val)} {vs : List (Key × V)}, RepK W G ds vs →
    RepK W G (ds.map fun kv => if kv.1 = k then (kv.1, d) else kv) (vs.map fun kv => if kv.1 = k then (kv.1, v) else kv)
  | _, _, .nil => .nil
  | _, _, .cons (k := k') p r => by
    by_cases e : k' = k
    · simpa [e] using RepK.cons (k := k) q (RepK.repl q r)
    · simpa [e] using RepK.cons (k := k') p (RepK.repl q r)
theorem RepK.put {k : Key} {d : Val} {v : V} (q : Rep W G d v) {ds : List (Key × Val)} {vs : List (Key × V)} (r : RepK W G ds vs) : RepK W G (dput ds k d) (putK vs k v) := by
  unfold dput putK
  rw [r.any k]
  split
  · exact r.repl q
  · exact r.append (.cons q .nil)
theorem RepF.lookup (f : Str) : ∀ {ds : List (Str × Val)} {vs : List (Str × V)}, RepF W G ds vs → (ds.lookup f = none ∧ vs.lookup f = none) ∨ ∃ d v, ds.lookup f = some d ∧ vs.lookup f = some v ∧ Rep W G d v
  | _, _, .nil => .inl ⟨rfl, rfl⟩
  | _, _, .cons (k := k') q r => by
    rw [List.lookup_cons, List.lookup_cons]
    cases e : f == k' with
    | true => exact .inr ⟨_, _, rfl, rfl, q⟩
    | false => exact RepF.lookup f r
theorem RepF.length : ∀ {ds : List (Str × Val)} {vs : List (Str × V)}, RepF W G ds vs → ds.length = vs.length
  | _, _, .nil => rfl
  | _, _, .cons _ r => by simp [RepF.length r]
theorem RepF.put {f : Str} {d : Val} {v : V} (q : Rep W G d v) : ∀ {ds : List (Str × Val)} {vs : List (Str × V)}, RepF W G ds vs → RepF W G (putFld f d ds) (putF f v vs)
  | _, _, .nil => .cons q .nil
  | _, _, .cons (k := k') p r => by
    unfold putFld putF
    by_cases e : k' = f
    · rw [if_pos e, if_pos e]; exact .cons q r
    · rw [if_neg e, if_neg e]; exact .cons p (RepF.put q r)
end

/-! ### objects of an owner -/
section
variable (W : Wr)
def OwnAt (H G : Hp) (d : Val) (a : Addr) : Prop := G a = none ∧ match d with
  | .lst ds => ∃ vs, H a = some (.lst vs) ∧ Reps W G ds vs
  | .dct ds => ∃ vs, H a = some (.dK vs) ∧ RepK W G ds vs
  | .ins c ds => ∃ dx vs, H a = some (.ins (W.C c) dx vs) ∧ RepF W G ds vs
  | _ => False
/-- what may be read -/
def Rdb (H G : Hp) (d : Val) (v : V) : Prop := Rep W G d v ∨ ∃ a, v = .ref a ∧ OwnAt W H G d a
end
def OwnS (ε : Env) (i : Nat) : Prop := ∃ d, ε[i]? = some (.own d) ∨ ε[i]? = some (.lent d)
def OA (ε : Env) (σ : L2.St) (a : Addr) : Prop := ∃ i, OwnS ε i ∧ σ[i]? = some (some (.ref a))

structure Rel (W : Wr) (ε : Env) (σ : L2.St) (H G : Hp) : Prop where
  len : ε.length = σ.length
  sub : Sub G H
  val : ∀ (i : Nat) (d : Val), ε[i]? = some (.val d) → ∃ v, σ[i]? = some (some v) ∧ Rep W G d v
  own : ∀ (i : Nat) (d : Val), (ε[i]? = some (.own d) ∨ ε[i]? = some (.lent d)) → ∃ a, σ[i]? = some (some (.ref a)) ∧ OwnAt W H G d a
  apart : ∀ (i j : Nat) (a : Addr), OwnS ε i → OwnS ε j → σ[i]? = some (some (.ref a)) → σ[j]? = some (some (.ref a)) → i = j

/-- a step of an expression -/
structure Stp (W : Wr) (ε : Env) (σ : L2.St) (H G : Hp) (ε' : Env) (H' G' : Hp) : Prop where
  rel : Rel W ε' σ H' G'
  grow : Sub G G'
  keep : ∀ a o, H a = some o → ¬ OA ε σ a → H' a = some o
  newG : ∀ a o, H a = some o → ¬ OA ε σ a → G' a = G a
  oa : ∀ a, OA ε' σ a → OA ε σ a
  lent : ∀ i : Nat, (∃ d, ε[i]? = some (.lent d)) ↔ ∃ d, ε'[i]? = some (.lent d)
  un : ∀ i : Nat, ε[i]? = some .sh → ε'[i]? = some .sh
  there : ∀ a o, H a = some o → ∃ o', H' a = some o'

section
variable {W : Wr} {ε ε' ε1 ε2 : Env} {σ : L2.St} {H G H' G' H1 G1 H2 G2 : Hp}
theorem OwnAt.there {d : Val} {a : Addr} (o : OwnAt W H G d a) : ∃ u, H a = some u := by
  obtain ⟨_, o⟩ := o
  cases d with
  | lst ds => obtain ⟨vs, e, _⟩ := o; exact ⟨_, e⟩
  | dct ds => obtain ⟨vs, e, _⟩ := o; exact ⟨_, e⟩
  | ins c ds => obtain ⟨dx, vs, e, _⟩ := o; exact ⟨_, e⟩
  | _ => exact o.elim
theorem OwnAt.keep {d : Val} {a : Addr} (o : OwnAt W H G d a) (g : Sub G G') (hk : ∀ u, H a = some u → H' a = some u) (hg : G' a = G a) : OwnAt W H' G' d a := by
  obtain ⟨n, o⟩ := o
  refine ⟨hg.trans n, ?_⟩
  cases d with
  | lst ds => obtain ⟨vs, e, r⟩ := o; exact ⟨vs, hk _ e, r.mono g⟩
  | dct ds => obtain ⟨vs, e, r⟩ := o; exact ⟨vs, hk _ e, r.mono g⟩
  | ins c ds => obtain ⟨dx, vs, e, r⟩ := o; exact ⟨dx, vs, hk _ e, r.mono g⟩
  | _ => exact o.elim
theorem Stp.refl (r : Rel W ε σ H G) : Stp W ε σ H G ε H G :=
  ⟨r, Sub.refl _, fun _ _ e _ => e, fun _ _ _ _ => rfl, fun _ h => h, fun _ => Iff.rfl, fun _ h => h, fun _ o e => ⟨o, e⟩⟩
theorem Stp.trans (a : Stp W ε σ H G ε1 H1 G1) (b : Stp W ε1 σ H1 G1 ε2 H2 G2) : Stp W ε σ H G ε2 H2 G2 where
  rel := b.rel
  grow := a.grow.trans b.grow
  keep := fun x o e n => b.keep x o (a.keep x o e n) fun z => n (a.oa x z)
  newG := fun x o e n => (b.newG x o (a.keep x o e n) fun z => n (a.oa x z)).trans (a.newG x o e n)
  oa := fun x z => a.oa x (b.oa x z)
  lent := fun i => (a.lent i).trans (b.lent i)
  un := fun i h => b.un i (a.un i h)
  there := fun x o e => by
    obtain ⟨o', e'⟩ := a.there x o e
    exact b.there x o' e'

/-- a step that only lays new objects -/
structure ASt (H G H' G' : Hp) : Prop where
  sub : Sub G' H'
  grow : Sub G G'
  keep : Sub H H'
  newG : ∀ a o, H a = some o → G' a = G a
theorem ASt.refl (s : Sub G H) : ASt H G H G := ⟨s, Sub.refl _, Sub.refl _, fun _ _ _ => rfl⟩
theorem Rel.ast (r : Rel W ε σ H G) (s : ASt H G H' G') : Rel W ε σ H' G' where
  len := r.len
  sub := s.sub
  val := fun i d e => by
    obtain ⟨v, h1, h2⟩ := r.val i d e
    exact ⟨v, h1, h2.mono s.grow⟩
  own := fun i d e => by
    obtain ⟨a, h1, h2⟩ := r.own i d e
    obtain ⟨u, hu⟩ := h2.there
    exact ⟨a, h1, h2.keep s.grow (fun u e => s.keep _ _ e) (s.newG _ _ hu)⟩
  apart := r.apart
theorem ASt.stp (r : Rel W ε σ H G) (s : ASt H G H' G') : Stp W ε σ H G ε H' G' :=
  ⟨r.ast s, s.grow, fun a o e _ => s.keep a o e, fun a o e _ => s.newG a o e, fun _ h => h, fun _ => Iff.rfl, fun _ h => h, fun _ o e => ⟨o, s.keep _ _ e⟩⟩
/-- a new object that never changes -/
theorem ast_val {p : Addr} {o : HO} (s : Sub G H) (hp : H p = none) : ASt H G (upd H p o) (upd G p o) := by
  have gp : G p = none := by
    cases e : G p with
    | none => rfl
    | some u => rw [s _ _ e] at hp; cases hp
  refine ⟨fun a u e => ?_, sub_upd gp, sub_upd hp, fun a u e => ?_⟩
  · by_cases h : a = p
    · subst h; rw [upd_same] at e ⊢; exact e
    · rw [upd_ne h] at e ⊢; exact s _ _ e
  · rw [upd_ne (ne_of_none e hp)]
/-- a new object with an owner -/
theorem ast_own {p : Addr} {o : HO} (s : Sub G H) (hp : H p = none) : ASt H G (upd H p o) G :=
  ⟨s.trans (sub_upd hp), Sub.refl _, sub_upd hp, fun _ _ _ => rfl⟩
theorem sub_none {p : Addr} (s : Sub G H) (hp : H p = none) : G p = none := by
  cases e : G p with
  | none => rfl
  | some u => rw [s _ _ e] at hp; cases hp

/-! ### results -/
/-- what lies at a result now -/
def RR0 (W : Wr) (ε : Env) (σ : L2.St) (H G : Hp) (r : RV) (v : V) : Prop := match r with
  | .v d => Rep W G d v
  | .o d => ∃ a, v = .ref a ∧ OwnAt W H G d a ∧ ¬ OA ε σ a
  | .b i => σ[i]? = some (some v)
/-- .. and it is new beside H0 -/
def RR (W : Wr) (H0 : Hp) (ε : Env) (σ : L2.St) (H G : Hp) (r : RV) (v : V) : Prop := match r with
  | .v d => Rep W G d v
  | .o d => ∃ a, v = .ref a ∧ OwnAt W H G d a ∧ ¬ OA ε σ a ∧ H0 a = none
  | .b i => σ[i]? = some (some v)
theorem RR.r0 {H0 : Hp} {r : RV} {v : V} (h : RR W H0 ε σ H G r v) : RR0 W ε σ H G r v := by
  cases r with
  | v d => exact h
  | o d => obtain ⟨a, e, o, n, _⟩ := h; exact ⟨a, e, o, n⟩
  | b i => exact h
theorem RR0.step {r : RV} {v : V} (h : RR0 W ε σ H G r v) (s : Stp W ε σ H G ε' H' G') : RR0 W ε' σ H' G' r v := by
  cases r with
  | v d => exact Rep.mono s.grow h
  | o d =>
    obtain ⟨a, e, o, n⟩ := h
    obtain ⟨u, hu⟩ := o.there
    exact ⟨a, e, o.keep s.grow (fun u e => s.keep _ _ e n) (s.newG _ _ hu n), fun z => n (s.oa _ z)⟩
  | b i => exact h
theorem RR.step {H0 : Hp} {r : RV} {v : V} (h : RR W H0 ε σ H G r v) (s : Stp W ε σ H G ε' H' G') : RR W H0 ε' σ H' G' r v := by
  cases r with
  | v d => exact Rep.mono s.grow h
  | o d =>
    obtain ⟨a, e, o, n, f⟩ := h
    obtain ⟨u, hu⟩ := o.there
    exact ⟨a, e, o.keep s.grow (fun u e => s.keep _ _ e n) (s.newG _ _ hu n), fun z => n (s.oa _ z), f⟩
  | b i => exact h
/-- a result that is new beside H1 is new beside H0, if all of H0 is there or ours -/
theorem Stp.fresh {a : Addr} (s : Stp W ε σ H G ε' H' G') (h : H' a = none) : H a = none := by
  cases e : H a with
  | none => rfl
  | some u =>
    obtain ⟨o', z⟩ := s.there a u e
    rw [z] at h; cases h
end
end Eng
end
section
set_option Elab.async false
set_option linter.all false
set_option maxRecDepth 100000
set_option maxHeartbeats 4000000
/-! EC: operators, comparisons, subscripts, built-ins over trees. -/
namespace Eng
open PySem PySem.Spec PyProof.Rows L2
section
variable {W : Wr} {G H : Hp} {x : V}
theorem rdb_non (h : Rdb W H G .non x) : x = .non := by
  rcases h with h | ⟨a, _, _, o⟩
  · cases h; rfl
  · exact o.elim
theorem rdb_bl {b : Bool} (h : Rdb W H G (.bl b) x) : x = .bl b := by
  rcases h with h | ⟨a, _, _, o⟩
  · cases h; rfl
  · exact o.elim
theorem rdb_int {b : Int} (h : Rdb W H G (.int b) x) : x = .int b := by
  rcases h with h | ⟨a, _, _, o⟩
  · cases h; rfl
  · exact o.elim
theorem rdb_str {b : Str} (h : Rdb W H G (.str b) x) : x = .str b := by
  rcases h with h | ⟨a, _, _, o⟩
  · cases h; rfl
  · exact o.elim
theorem rdb_kd {j : Nat} (h : Rdb W H G (.kd j) x) : x = .ref (W.kd j) := by
  rcases h with h | ⟨a, _, _, o⟩
  · cases h; rfl
  · exact o.elim
theorem rdb_tup {ds : List Val} (s : Sub G H) (h : Rdb W H G (.tup ds) x) : ∃ a vs, x = .ref a ∧ SqT W.K G a vs ∧ SqT W.K H a vs ∧ Reps W G ds vs := by
  rcases h with h | ⟨a, _, _, o⟩
  · cases h with
    | tup q r => exact ⟨_, _, rfl, q, sqt_mono s q, r⟩
  · exact o.elim
theorem rdb_lst {ds : List Val} (s : Sub G H) (h : Rdb W H G (.lst ds) x) : ∃ a vs, x = .ref a ∧ H a = some (.lst vs) ∧ Reps W G ds vs := by
  rcases h with h | ⟨a, e, _, vs, o, r⟩
  · cases h with
    | lst q r => exact ⟨_, _, rfl, s _ _ q, r⟩
  · exact ⟨a, vs, e, o, r⟩
theorem rdb_scr {is : List Int} (s : Sub G H) (h : Rdb W H G (.scr is) x) : ∃ a, x = .ref a ∧ SqL W.K H a (is.map V.int) := by
  rcases h with h | ⟨a, e, _, o⟩
  · cases h with
    | scr q => exact ⟨_, rfl, sql_mono s q⟩
  · exact o.elim
theorem rdb_dct {ds : List (Key × Val)} (s : Sub G H) (h : Rdb W H G (.dct ds) x) : ∃ a vs, x = .ref a ∧ H a = some (.dK vs) ∧ RepK W G ds vs := by
  rcases h with h | ⟨a, e, _, vs, o, r⟩
  · cases h with
    | dct q r => exact ⟨_, _, rfl, s _ _ q, r⟩
  · exact ⟨a, vs, e, o, r⟩
theorem rdb_ins {c : Nat} {ds : List (Str × Val)} (s : Sub G H) (h : Rdb W H G (.ins c ds) x) : ∃ a dx vs, x = .ref a ∧ H a = some (.ins (W.C c) dx vs) ∧ RepF W G ds vs := by
  rcases h with h | ⟨a, e, _, dx, vs, o, r⟩
  · cases h with
    | ins q r => exact ⟨_, _, _, rfl, s _ _ q, r⟩
  · exact ⟨a, dx, vs, e, o, r⟩

/-- what an operation hands on -/
def AR (W : Wr) (H G : Hp) (r : RV) (v : V) (H' G' : Hp) : Prop := ASt H G H' G' ∧ match r with
  | .v d => Rep W G' d v
  | .o d => ∃ a, v = .ref a ∧ H a = none ∧ OwnAt W H' G' d a
  | .b _ => False
theorem AR.same {d : Val} {v : V} (s : Sub G H) (h : Rep W G d v) : AR W H G (.v d) v H G := ⟨.refl s, h⟩
theorem AR.newTup {ds : List Val} {vs : List V} {p : Addr} (s : Sub G H) (hp : H p = none) (r : Reps W G ds vs) : AR W H G (.v (.tup ds)) (.ref p) (upd H p (.tup vs)) (upd G p (.tup vs)) := by
  have a := ast_val (o := .tup vs) s hp
  exact ⟨a, .tup (.inl (.inl upd_same)) (r.mono a.grow)⟩
theorem AR.newLst {ds : List Val} {vs : List V} {p : Addr} (s : Sub G H) (hp : H p = none) (r : Reps W G ds vs) : AR W H G (.o (.lst ds)) (.ref p) (upd H p (.lst vs)) G :=
  ⟨ast_own s hp, p, rfl, hp, sub_none s hp, vs, upd_same, r⟩
theorem AR.newDct {ds : List (Key × Val)} {vs : List (Key × V)} {p : Addr} (s : Sub G H) (hp : H p = none) (r : RepK W G ds vs) : AR W H G (.o (.dct ds)) (.ref p) (upd H p (.dK vs)) G :=
  ⟨ast_own s hp, p, rfl, hp, sub_none s hp, vs, upd_same, r⟩
end

def R2S (W : Wr) (g : Val → Val → Option RV) : R2 := fun x y H Q => ∃ G d e r, Sub G H ∧ Rdb W H G d x ∧ Rdb W H G e y ∧ g d e = some r ∧ ∀ v H' G', AR W H G r v H' G' → Q v H'
theorem cap_le : cap ≤ sizeLine := by rw [sizeLine_eq]; decide
theorem small_mul {i j : Int} (h : (small64 i || small64 j) = true) : CMul i j := by
  simp only [small64, Bool.or_eq_true, Bool.and_eq_true, decide_eq_true_eq] at h
  rcases h with h | h
  · exact .inl ⟨by omega, by omega⟩
  · exact .inr ⟨by omega, by omega⟩
section
variable {X : Cx} {W : Wr}
theorem tup_mul1 (l : Addr) (items : Array Value) (n : Nat) (dd : Option Addr) (sl : Array (Option Value)) (u : Tok) :
    Meets (Builtin.«tuple.__mul__» ⟨[.ref l, .int 1 u], []⟩) (fun _ R s => s.heap.get? l = some { cls := .type "tuple", dict := dd, data := .seq items n, slots := sl } ∧ R (.ok (.ret (Value.ref l))) s) :=
  .of_wp fun prog w A R s h => by
    obtain ⟨hp, g, d, tk, os⟩ := s
    obtain ⟨hl, h⟩ := h
    have f1 := AutoSeq1.idx_int
    wp_walk using wpAny_loadPart' hl
    repeat (first
      | (refine wpAny_ite_false (by decide) ?_; wp_walk using wpAny_loadPart' hl)
      | (refine wpAny_ite_true (by simp) ?_; wp_walk using wpAny_loadPart' hl))
    exact ⟨_, rfl, h⟩
theorem tup_mul0 (l : Addr) (items : Array Value) (n : Nat) (dd : Option Addr) (sl : Array (Option Value)) (u : Tok) (hi : items.isEmpty = false) :
    Meets (Builtin.«tuple.__mul__» ⟨[.ref l, .int 0 u], []⟩) (fun _ R s => s.heap.get? l = some { cls := .type "tuple", dict := dd, data := .seq items n, slots := sl } ∧
      R (.ok (.ret (Value.ref s.heap.objs.size))) { s with heap := s.heap.push { cls := Value.type "tuple", data := Data.seq #[] }, toks := s.toks }) :=
  .of_wp fun prog w A R s h => by
    obtain ⟨hp, g, d, tk, os⟩ := s
    obtain ⟨hl, h⟩ := h
    have f1 := AutoSeq1.idx_int
    wp_walk using wpAny_loadPart' hl
    repeat (first
      | (refine wpAny_ite_false (by decide) ?_; wp_walk using wpAny_loadPart' hl)
      | (refine wpAny_ite_false (by rw [hi]; decide) ?_; wp_walk using wpAny_loadPart' hl)
      | (refine wpAny_ite_true (by simp) ?_; wp_walk using wpAny_loadPart' hl))
    exact ⟨_, rfl, h⟩

/-- t * k of a tuple that is not empty -/
theorem op_repS : OpR X (binaryOp .Mult) (fun x y H Q => ∃ l k xs, x = .ref l ∧ y = .int k ∧ SqT X.K H l xs ∧ xs ≠ [] ∧ 0 ≤ k ∧ k ≤ 1000 ∧ xs.length ≤ 1000 ∧
    (k = 1 → Q (.ref l) H) ∧ (k ≠ 1 → ∀ p, H p = none → Q (.ref p) (upd H p (.tup (List.replicate k.toNat xs).flatten)))) := by
  intro pins s σ H x y v u Q I rx ry h
  obtain ⟨l, k, xs, rfl, rfl, hT, hne, h1, h2, hz, q1, q2⟩ := h
  by_cases hk2 : 2 ≤ k
  · exact op_repT pins s σ H _ _ _ _ Q I rx ry ⟨l, k, xs, rfl, rfl, hT, hne, hk2, h2, hz, q2 (by omega)⟩
  cases rx
  obtain ⟨t, rfl⟩ := ry
  obtain ⟨its, r, ⟨⟨cls, dd, data, sl⟩, ho, hc, n, hd⟩, hs⟩ := I.tuple hT
  simp only at hc hd
  subst hc hd
  have hle : its.length = xs.length := r.length.symm
  have hn : its ≠ [] := fun e => hne (by
    rw [e] at hle
    exact List.eq_nil_of_length_eq_zero hle.symm)
  have hi : its.toArray.isEmpty = false := by
    cases its with
    | nil => exact absurd rfl hn
    | cons a b => rfl
  by_cases hk1 : k = 1
  · subst hk1
    refine wpAny_binaryOp_repeat_ref (T := "tuple") (U := "int") (by decide) ⟨_, ho, rfl⟩ (fun s' => typeIs_int s' 1 t) noFill_tuple_mul F.fills_int_mul F.slot_int_rmul repeat_tuple F.slot_int_index.lookup
      (call_meets F.slot_int_rmul (typeIs_int s 1 t) F.entry_int_rmul (F.args_int_rmul_2 _ _) (int_rmul_tuple 1 t l its.toArray n dd sl)
        ⟨ho, rfl, ⟨_, ho, rfl⟩, call_meets F.slot_tuple_mul ⟨_, ho, rfl⟩ F.entry_tuple_mul (F.args_tuple_mul_2 _ _) (tup_mul1 l its.toArray n dd sl t) ⟨ho, ?_⟩⟩)
    exact ⟨.ref l, H, I, rfl, q1 rfl⟩
  · have hk0 : k = 0 := by omega
    subst hk0
    refine wpAny_binaryOp_repeat_ref (T := "tuple") (U := "int") (by decide) ⟨_, ho, rfl⟩ (fun s' => typeIs_int s' 0 t) noFill_tuple_mul F.fills_int_mul F.slot_int_rmul repeat_tuple F.slot_int_index.lookup
      (call_meets F.slot_int_rmul (typeIs_int s 0 t) F.entry_int_rmul (F.args_int_rmul_2 _ _) (int_rmul_tuple 0 t l its.toArray n dd sl)
        ⟨ho, rfl, ⟨_, ho, rfl⟩, call_meets F.slot_tuple_mul ⟨_, ho, rfl⟩ F.entry_tuple_mul (F.args_tuple_mul_2 _ _) (tup_mul0 l its.toArray n dd sl t hi) ⟨ho, ?_⟩⟩)
    refine ⟨.ref s.heap.objs.size, _, I.laid (t' := s.toks) (o := .tup []) (fun b ob q => Heap.get?_push_of_some _ q) (Nat.le_refl _) ?_, rfl, q2 hk1 _ (I.hok.fresh (Nat.le_refl _))⟩
    exact ⟨Nat.zero_le _, [], .nil, IsTup.new _ _⟩

theorem reps_flat {G : Hp} {ds : List Val} {vs : List V} (r : Reps W G ds vs) : ∀ n : Nat, Reps W G (List.replicate n ds).flatten (List.replicate n vs).flatten
  | 0 => .nil
  | n + 1 => by
    rw [List.replicate_succ, List.replicate_succ, List.flatten_cons, List.flatten_cons]
    exact r.append (reps_flat r n)

theorem op_bin (hK : X.K = W.K) (op : Operator) : OpR X (binaryOp op) (R2S W (binop op)) := by
  intro pins s σ H x y v u Q I rx ry h
  obtain ⟨G, d, e, r, sb, hd, he, hg, hQ⟩ := h
  unfold binop at hg
  split at hg
  · cases hg
    exact op_add pins s σ H _ _ _ _ Q I rx ry ⟨_, _, rdb_int hd, rdb_int he, hQ _ _ _ (.same sb (.int _))⟩
  · split at hg
    · cases hg
      exact op_add_str pins s σ H _ _ _ _ Q I rx ry ⟨_, _, rdb_str hd, rdb_str he, by have := cap_le; omega, hQ _ _ _ (.same sb (.str _))⟩
    · cases hg
  · split at hg
    · cases hg
      obtain ⟨a, vs, rfl, qg, qh, r1⟩ := rdb_tup sb hd
      obtain ⟨b, us, rfl, qg2, qh2, r2⟩ := rdb_tup sb he
      refine op_catA pins s σ H _ _ _ _ Q I rx ry ⟨a, b, vs, us, rfl, rfl, hK ▸ qh, hK ▸ qh2, ?_, fun e => ?_, fun n e => ?_, fun n1 n2 p hp => ?_⟩
      · have := cap_le; have := r1.length; have := r2.length; omega
      · subst e; cases r1
        exact hQ _ _ _ (.same sb (.tup qg2 r2))
      · subst e; cases r2
        rw [List.append_nil] at hQ
        exact hQ _ _ _ (.same sb (.tup qg r1))
      · exact hQ _ _ _ (.newTup sb hp (r1.append r2))
    · cases hg
  · split at hg
    · cases hg
      obtain ⟨a, vs, rfl, qh, r1⟩ := rdb_lst sb hd
      obtain ⟨b, us, rfl, qh2, r2⟩ := rdb_lst sb he
      refine op_cat pins s σ H _ _ _ _ Q I rx ry ⟨a, b, vs, us, rfl, rfl, qh, qh2, ?_, fun p hp => ?_⟩
      · have := cap_le; have := r1.length; have := r2.length; omega
      · exact hQ _ _ _ (.newLst sb hp (r1.append r2))
    · cases hg
  · cases hg
    exact op_sub pins s σ H _ _ _ _ Q I rx ry ⟨_, _, rdb_int hd, rdb_int he, hQ _ _ _ (.same sb (.int _))⟩
  · split at hg
    · rename_i hs
      cases hg
      exact op_mul pins s σ H _ _ _ _ Q I rx ry ⟨_, _, rdb_int hd, rdb_int he, small_mul hs, hQ _ _ _ (.same sb (.int _))⟩
    · cases hg
  · split at hg
    · cases hg
    · rename_i hemp
      split at hg
      · rename_i hb
        cases hg
        obtain ⟨a, vs, rfl, qg, qh, r1⟩ := rdb_tup sb hd
        have hy := rdb_int he
        subst hy
        have hl := r1.length
        refine op_repS pins s σ H _ _ _ _ Q I rx ry ⟨a, _, vs, rfl, rfl, hK ▸ qh, ?_, hb.1, hb.2.1, by omega, fun e => ?_, fun n p hp => ?_⟩
        · rintro rfl
          cases r1
          exact hemp rfl
        · subst e
          have := hQ (.ref a) H G (.same sb (.tup (ds := (List.replicate (1 : Int).toNat _).flatten) qg (by simpa using r1)))
          exact this
        · exact hQ _ _ _ (.newTup sb hp (reps_flat r1 _))
      · cases hg
  · split at hg
    · rename_i hs
      cases hg
      have hx := rdb_str hd
      have hy := rdb_int he
      subst hx hy
      obtain ⟨t, rfl⟩ := rx
      obtain ⟨t', rfl⟩ := ry
      exact SB.mul (mulOk_of 16 1000 hs.1 (by have := hs.2.2; omega) (by have := hs.2.1; omega) (by decide) (by decide)) fun t' k => ⟨.str _, H, I.tok _, ⟨_, rfl⟩, hQ _ _ _ (.same sb (.str _))⟩
    · cases hg
  · split at hg
    · rename_i hs
      cases hg
      simp only [isNat31, Bool.and_eq_true, decide_eq_true_eq] at hs
      exact op_fdiv pins s σ H _ _ _ _ Q I rx ry ⟨_, _, rdb_int hd, rdb_int he, ⟨hs.1, hs.2⟩, hQ _ _ _ (.same sb (.int _))⟩
    · cases hg
  · split at hg
    · rename_i hs
      cases hg
      exact op_mod pins s σ H _ _ _ _ Q I rx ry ⟨_, _, rdb_int hd, rdb_int he, hs, hQ _ _ _ (.same sb (.int _))⟩
    · cases hg
  · split at hg
    · rename_i hs
      cases hg
      have h3 := hs.2.2
      simp only [small64, Bool.and_eq_true, decide_eq_true_eq] at h3
      exact op_pow pins s σ H _ _ _ _ Q I rx ry ⟨_, _, rdb_int hd, rdb_int he, ⟨hs.1, by omega, by omega⟩, hQ _ _ _ (.same sb (.int _))⟩
    · cases hg
  · cases hg
end
end Eng
end
section
set_option Elab.async false
set_option linter.all false
set_option maxRecDepth 100000
set_option maxHeartbeats 4000000
/-! ED: comparisons over trees. -/
namespace Eng
open PySem PySem.Spec PyProof.Rows L2
mutual
def pdOf : Val → PyData
  | .bl b => .bool b
  | .int i => .int i
  | .str s => .str s
  | .tup xs => .tuple (pdsOf xs)
  | .lst xs => .list (pdsOf xs)
  | _ => .none
def pdsOf : List Val → List PyData
  | [] => []
  | x :: xs => pdOf x :: pdsOf xs
end
theorem eqv_lists (n : Nat) (P : ∀ m a b, fit n a = true → fit m b = true → PyData.eqv (pdOf a) (pdOf b) = veqB a b) :
    ∀ m xs ys, fits n xs = true → fits m ys = true → PyData.eqvAll (pdsOf xs) (pdsOf ys) = veqBs xs ys
  | m, [], [], _, _ => rfl
  | m, [], y :: ys, _, _ => rfl
  | m, x :: xs, [], _, _ => rfl
  | m, x :: xs, y :: ys, h, k => by
    simp only [fits, Bool.and_eq_true] at h k
    simp only [pdsOf, PyData.eqvAll, veqBs]
    rw [P m x y h.1 k.1, eqv_lists n P m xs ys h.2 k.2]
theorem eqv_of : ∀ n m a b, fit n a = true → fit m b = true → PyData.eqv (pdOf a) (pdOf b) = veqB a b
  | 0, m, a, b, h, k => by
    cases a <;> cases b <;> first | rfl | (simp [fit] at h; done) | (cases m <;> simp [fit] at k; done) | simp [pdOf, PyData.eqv, veqB]
  | n + 1, m, a, b, h, k => by
    cases a <;> cases b <;> first | rfl | (simp [fit] at h; done) | (cases m <;> simp [fit] at k; done) | skip
    · cases m with
      | zero => simp [fit] at k
      | succ m =>
        simp only [fit] at h k
        simp only [pdOf, PyData.eqv, veqB]
        exact eqv_lists n (eqv_of n) m _ _ h k
    · cases m with
      | zero => simp [fit] at k
      | succ m =>
        simp only [fit] at h k
        simp only [pdOf, PyData.eqv, veqB]
        exact eqv_lists n (eqv_of n) m _ _ h k
section
variable {W : Wr} {G H : Hp}
theorem dp_lists (sb : Sub G H) (n : Nat) (P : ∀ d v, fit n d = true → Rep W G d v → Dp W.K H v (pdOf d) ∧ PyData.canLay0 (pdOf d) = true ∧ PyData.depth (pdOf d) ≤ n) :
    ∀ ds vs, fits n ds = true → Reps W G ds vs → DpAll W.K H vs (pdsOf ds) ∧ PyData.canLayAll0 (pdsOf ds) = true ∧ PyData.depthAll (pdsOf ds) ≤ n
  | [], _, _, .nil => ⟨.nil, rfl, by simp [pdsOf, PyData.depthAll]⟩
  | d :: ds, _, h, .cons q r => by
    simp only [fits, Bool.and_eq_true] at h
    obtain ⟨h1, h2, h3⟩ := P _ _ h.1 q
    obtain ⟨k1, k2, k3⟩ := dp_lists sb n P _ _ h.2 r
    refine ⟨.cons h1 k1, ?_, ?_⟩
    · simp only [pdsOf, PyData.canLayAll0, h2, k2, Bool.and_self]
    · simp only [pdsOf, PyData.depthAll]
      exact Nat.max_le.mpr ⟨h3, k3⟩
theorem dp_of (sb : Sub G H) : ∀ n d v, fit n d = true → Rep W G d v → Dp W.K H v (pdOf d) ∧ PyData.canLay0 (pdOf d) = true ∧ PyData.depth (pdOf d) ≤ n
  | 0, d, v, h, r => by
    cases r <;> first | (simp [fit] at h; done) | skip
    · exact ⟨.non, by simp [pdOf, PyData.canLay0], by simp [pdOf, PyData.depth]⟩
    · exact ⟨.bl _, by simp [pdOf, PyData.canLay0], by simp [pdOf, PyData.depth]⟩
    · exact ⟨.int _, by simp [pdOf, PyData.canLay0], by simp [pdOf, PyData.depth]⟩
    · exact ⟨.str _, by simpa [pdOf, PyData.canLay0, fit] using h, by simp [pdOf, PyData.depth]⟩
  | n + 1, d, v, h, r => by
    cases r <;> first | (simp [fit] at h; done) | skip
    · exact ⟨.non, by simp [pdOf, PyData.canLay0], by simp [pdOf, PyData.depth]⟩
    · exact ⟨.bl _, by simp [pdOf, PyData.canLay0], by simp [pdOf, PyData.depth]⟩
    · exact ⟨.int _, by simp [pdOf, PyData.canLay0], by simp [pdOf, PyData.depth]⟩
    · exact ⟨.str _, by simpa [pdOf, PyData.canLay0, fit] using h, by simp [pdOf, PyData.depth]⟩
    · rename_i a ds vs q r
      simp only [fit] at h
      obtain ⟨k1, k2, k3⟩ := dp_lists sb n (dp_of sb n) _ _ h r
      exact ⟨.tup (sqt_mono sb q) k1, by simpa [pdOf, PyData.canLay0] using k2, by simp only [pdOf, PyData.depth]; omega⟩
    · rename_i a ds vs q r
      simp only [fit] at h
      obtain ⟨k1, k2, k3⟩ := dp_lists sb n (dp_of sb n) _ _ h r
      exact ⟨.lst (SqL.of (sb _ _ q)) k1, by simpa [pdOf, PyData.canLay0] using k2, by simp only [pdOf, PyData.depth]; omega⟩
theorem dp_rdb (sb : Sub G H) {d : Val} {v : V} (h : fit 60 d = true) (r : Rdb W H G d v) : Dp W.K H v (pdOf d) ∧ SeqAt.shaped (pdOf d) = true := by
  have key : Dp W.K H v (pdOf d) ∧ PyData.canLay0 (pdOf d) = true ∧ PyData.depth (pdOf d) ≤ 60 := by
    rcases r with r | ⟨a, rfl, _, o⟩
    · exact dp_of sb 60 d v h r
    · cases d with
      | lst ds =>
        obtain ⟨vs, e, r⟩ := o
        simp only [fit] at h
        obtain ⟨k1, k2, k3⟩ := dp_lists sb 59 (dp_of sb 59) _ _ h r
        exact ⟨.lst (SqL.of e) k1, by simpa [pdOf, PyData.canLay0] using k2, by simp only [pdOf, PyData.depth]; omega⟩
      | dct _ => simp [fit] at h
      | ins _ _ => simp [fit] at h
      | _ => exact o.elim
  refine ⟨key.1, ?_⟩
  unfold SeqAt.shaped
  rw [key.2.1, decide_eq_true (Nat.le_trans key.2.2 (by decide))]; rfl
end

def R2B (W : Wr) (g : Val → Val → Option Bool) : R2 := fun x y H Q => ∃ G d e b, Sub G H ∧ Rdb W H G d x ∧ Rdb W H G e y ∧ g d e = some b ∧ Q (.bl b) H
/-- the written dicts hold what the table tells -/
structure KdOk (W : Wr) (w : World) (T : List (List (Str × Val))) : Prop where
  at_ : ∀ j kvs, T[j]? = some kvs → ∃ es n, KDict W.K w (W.kd j) es n ∧ Paired (fun (kv : Str × Val) (e : DictEntry) => (∃ t, e.key = .str kv.1 t) ∧ ∃ v, RelV v e.val ∧ Rep W (fun _ => none) kv.2 v) kvs es.toList
theorem kd_find {W : Wr} {kvs : List (Str × Val)} {es : List DictEntry} (h : Paired (fun (kv : Str × Val) (e : DictEntry) => (∃ t, e.key = .str kv.1 t) ∧ ∃ v, RelV v e.val ∧ Rep W (fun _ => none) kv.2 v) kvs es) (z : Str) :
    (kvs.lookup z = none ∧ es.find? (·.key.isStr z) = none ∧ es.any (·.refKey) = false) ∨ ∃ d e v, kvs.lookup z = some d ∧ es.find? (·.key.isStr z) = some e ∧ RelV v e.val ∧ Rep W (fun _ => none) d v := by
  induction h with
  | nil => exact .inl ⟨rfl, rfl, rfl⟩
  | @cons kv e kvs es p r ih =>
    obtain ⟨⟨t, ek⟩, v, rv, rr⟩ := p
    obtain ⟨k, d⟩ := kv
    have hk : e.key.isStr z = (k == z) := by rw [ek]; rfl
    have hrk : e.refKey = false := by unfold DictEntry.refKey; rw [ek]
    rw [List.lookup_cons, List.find?_cons, hk]
    have sw : (z == k) = (k == z) := by
      rw [Bool.eq_iff_iff, beq_iff_eq, beq_iff_eq]; exact eq_comm
    rw [sw]
    cases hz : (k == z) with
    | true => exact .inr ⟨d, e, v, rfl, rfl, rv, rr⟩
    | false =>
      rcases ih with ⟨h1, h2, h3⟩ | ⟨d', e', v', h1, h2, h3, h4⟩
      · exact .inl ⟨h1, h2, by rw [List.any_cons, hrk, h3]; rfl⟩
      · exact .inr ⟨d', e', v', h1, h2, h3, h4⟩
theorem kd_ns {W : Wr} {w : World} {T : List (List (Str × Val))} (K : KdOk W w T) {j : Nat} {kvs : List (Str × Val)} (e : T[j]? = some kvs) :
    ∃ es n, KDict W.K w (W.kd j) es n ∧ ∀ z : Str, (kvs.lookup z = none ∧ PySem.W.nsIn W.K (W.kd j) z = some none) ∨ ∃ d v u, kvs.lookup z = some d ∧ PySem.W.nsIn W.K (W.kd j) z = some (some u) ∧ RelV v u ∧ Rep W (fun _ => none) d v := by
  obtain ⟨es, n, D, P⟩ := K.at_ j kvs e
  refine ⟨es, n, D, fun z => ?_⟩
  unfold PySem.W.nsIn
  rw [D.at_]
  rcases kd_find P z with ⟨h1, h2, h3⟩ | ⟨d, e, v, h1, h2, h3, h4⟩
  · refine .inl ⟨h1, ?_⟩
    simp only [h2, h3]
    rfl
  · exact .inr ⟨d, v, e.val, h1, by simp only [h2], h3, h4⟩

section
variable {X : Cx} {W : Wr}
theorem vin_ok {G H : Hp} {d : Val} {ds : List Val} {v : V} {vs : List V} {b : Bool} (h : vin d ds = some b) (r : Rdb W H G d v) (rs : Reps W G ds vs) : flatV v = true ∧ vs.all flatV = true ∧ inV v vs = b := by
  unfold vin at h
  split at h
  · rename_i hs
    simp only [Bool.and_eq_true] at hs
    cases h
    have one : ∀ {d : Val} {v : V}, scalV d = true → Rep W G d v → flatV v = true := fun {d v} s r => by cases r <;> first | rfl | (simp [scalV] at s; done)
    have hd : Rep W G d v := by
      rcases r with r | ⟨a, _, _, o⟩
      · exact r
      · cases d <;> first | exact o.elim | (simp [scalV] at hs; done)
    have eq1 : ∀ {e : Val} {u : V}, scalV e = true → Rep W G e u → eqV u v = veqB e d := fun {e u} s r => by
      have s1 := hs.1
      cases r <;> cases hd <;> first | rfl | (simp [scalV] at s s1; done) | (simp [eqV, veqB]; done) | skip
    have l : ∀ {ds : List Val} {vs : List V}, ds.all scalV = true → Reps W G ds vs → vs.all flatV = true ∧ inV v vs = (ds.any fun y => veqB y d) := by
      intro ds vs s r
      clear rs hs
      induction ds generalizing vs with
      | nil => cases r; exact ⟨rfl, rfl⟩
      | cons e es ih =>
        cases r with
        | cons q r =>
          simp only [List.all_cons, Bool.and_eq_true] at s
          obtain ⟨i1, i2⟩ := ih s.2 r
          refine ⟨by simp [one s.1 q, i1], ?_⟩
          unfold inV at i2 ⊢
          rw [List.any_cons, List.any_cons, i2, eq1 s.1 q]
    exact ⟨one hs.1 hd, l hs.2 rs⟩
  · cases h
theorem key_of {G H : Hp} {d : Val} {v : V} {k : Key} (h : keyOf d = some k) (r : Rdb W H G d v) : v = kV k := by
  cases d <;> simp only [keyOf] at h <;> first | (cases h; done) | skip
  · cases h; exact rdb_int r
  · cases h; exact rdb_str r

theorem op_isS (neg : Bool) : OpR X (compareOp (if neg then .IsNot else .Is)) (R2B W (isop neg)) := by
  intro pins s σ H x y v u Q I rx ry h
  obtain ⟨G, d, e, b, sb, hd, he, hg, hQ⟩ := h
  unfold isop at hg
  split at hg
  · cases hg
    have hy := rdb_non he
    subst hy
    have key : decide (x = V.non) = isNonV d := by
      cases d with
      | non => rw [rdb_non hd]; rfl
      | bl _ => rw [rdb_bl hd]; rfl
      | int _ => rw [rdb_int hd]; rfl
      | str _ => rw [rdb_str hd]; rfl
      | tup _ => obtain ⟨_, _, e, _⟩ := rdb_tup sb hd; rw [e]; rfl
      | lst _ => obtain ⟨_, _, e, _⟩ := rdb_lst sb hd; rw [e]; rfl
      | dct _ => obtain ⟨_, _, e, _⟩ := rdb_dct sb hd; rw [e]; rfl
      | ins _ _ => obtain ⟨_, _, _, e, _⟩ := rdb_ins sb hd; rw [e]; rfl
      | kd _ => rw [rdb_kd hd]; rfl
      | scr _ => obtain ⟨_, e, _⟩ := rdb_scr sb hd; rw [e]; rfl
    cases neg with
    | false => exact op_isN pins s σ H x .non v u Q I rx ry ⟨rfl, by rw [key]; exact hQ⟩
    | true => exact op_notN pins s σ H x .non v u Q I rx ry ⟨rfl, by rw [key]; exact hQ⟩
  · rename_i b'
    have hy := rdb_bl he
    subst hy
    have eu : u = Value.bool b' := ry
    subst eu
    have ry : RelV (V.bl b') (Value.bool b') := rfl
    have other : ∀ c : Value, plainIs c (.bool b') = true → plainIs c (.bool b') = true → c ≠ .bool b' → Q (.bl neg) H → v = c → wpAny (model X.prog X.w) X.A (compareOp (if neg then .IsNot else .Is) v (.bool b')) (EP X pins σ Q) X.xe s := by
      intro c h1 h2 h3 q ev
      subst ev
      cases neg with
      | false => exact wpAny_is_other h1 h3 ⟨.bl false, H, I, rfl, q⟩
      | true => exact wpAny_isNot_other h1 h3 ⟨.bl true, H, I, rfl, q⟩
    cases d with
    | non =>
      cases hg
      rw [rdb_non hd] at rx
      exact other Value.none rfl rfl (fun z => nomatch z) hQ rx
    | int i =>
      cases hg
      rw [rdb_int hd] at rx
      obtain ⟨t, e⟩ := (show ∃ t, v = Value.int i t from rx)
      exact other (Value.int i t) rfl rfl (fun z => nomatch z) hQ e
    | str i =>
      cases hg
      rw [rdb_str hd] at rx
      obtain ⟨t, e⟩ := (show ∃ t, v = Value.str i t from rx)
      exact other (Value.str i t) rfl rfl (fun z => nomatch z) hQ e
    | tup _ =>
      cases hg
      obtain ⟨a, _, e, _⟩ := rdb_tup sb hd
      rw [e] at rx
      exact other (Value.ref a) rfl rfl (fun z => nomatch z) hQ (show v = Value.ref a from rx)
    | bl a =>
      have hx := rdb_bl hd
      subst hx
      cases neg with
      | false => cases hg; exact op_is_bl pins s σ H (.bl a) (.bl b') _ _ Q I rx ry ⟨a, b', rfl, rfl, hQ⟩
      | true => cases hg; exact op_isnot_bl pins s σ H (.bl a) (.bl b') _ _ Q I rx ry ⟨a, b', rfl, rfl, hQ⟩
    | _ => cases hg
  · cases hg

theorem veq_ok (hK : X.K = W.K) (hu : X.A.units + 64 < cLine) {G H : Hp} {d e : Val} {x y : V} {v u : Value} {b : Bool} {Q : VK} {pins : List (Addr × Obj)} {σ : L2.St} {s : Shared} (neg : Bool) (I : Inv X pins σ H s) (rx : RelV x v) (ry : RelV y u) (sb : Sub G H)
    (hd : Rdb W H G d x) (he : Rdb W H G e y) (hg : veq d e = some b) (hQ : Q (.bl (if neg then !b else b)) H) : wpAny (model X.prog X.w) X.A (compareOp (if neg then .NotEq else .Eq) v u) (EP X pins σ Q) X.xe s := by
  have deep : fit 60 d = true → fit 60 e = true → b = veqB d e → wpAny (model X.prog X.w) X.A (compareOp (if neg then .NotEq else .Eq) v u) (EP X pins σ Q) X.xe s := by
    intro fd fe eb
    obtain ⟨h1, s1⟩ := dp_rdb sb fd hd
    obtain ⟨h2, s2⟩ := dp_rdb sb fe he
    have ev := eqv_of 60 60 d e fd fe
    cases neg with
    | false => exact op_eqD hu pins s σ H x y v u Q I rx ry ⟨_, _, hK ▸ h1, hK ▸ h2, s1, s2, by rw [ev, ← eb]; exact hQ⟩
    | true => exact op_neD hu pins s σ H x y v u Q I rx ry ⟨_, _, hK ▸ h1, hK ▸ h2, s1, s2, by rw [ev, ← eb]; exact hQ⟩
  unfold veq at hg
  split at hg
  · rename_i i j
    cases hg
    have hx := rdb_int hd
    have hy := rdb_int he
    subst hx hy
    cases neg with
    | false => exact op_eq pins s σ H _ _ _ _ Q I rx ry ⟨rfl, by rw [dec_int]; exact hQ⟩
    | true => exact op_ne pins s σ H _ _ _ _ Q I rx ry ⟨rfl, by rw [dec_int]; exact hQ⟩
  · rename_i i j
    cases hg
    have hx := rdb_str hd
    have hy := rdb_str he
    subst hx hy
    cases neg with
    | false => exact op_eq pins s σ H _ _ _ _ Q I rx ry ⟨rfl, by rw [dec_str]; exact hQ⟩
    | true => exact op_ne pins s σ H _ _ _ _ Q I rx ry ⟨rfl, by rw [dec_str]; exact hQ⟩
  · cases hg
    exact deep rfl rfl rfl
  · split at hg
    · rename_i hf
      simp only [Bool.and_eq_true] at hf
      cases hg
      exact deep hf.1 hf.2 rfl
    · cases hg

theorem op_cmpS (hK : X.K = W.K) (hu : X.A.units + 64 < cLine) {T : List (List (Str × Val))} (KD : KdOk W X.w T) (op : CmpOp) : OpR X (compareOp op) (R2B W (cmpo T op)) := by
  unfold cmpo
  split
  · exact op_isS false
  · exact op_isS true
  rename_i n1 n2
  intro pins s σ H x y v u Q I rx ry h
  obtain ⟨G, d, e, b, sb, hd, he, hg, hQ⟩ := h
  have hu1 : X.A.units + 1 < cLine := by omega
  replace hg : cmpop T op d e = some b := hg
  unfold cmpop at hg
  split at hg
  · exact veq_ok hK hu false I rx ry sb hd he hg hQ
  · cases e1 : veq d e with
    | none => rw [e1] at hg; cases hg
    | some b0 =>
      rw [e1] at hg
      cases hg
      exact veq_ok hK hu true I rx ry sb hd he e1 hQ
  · cases hg; exact op_lt pins s σ H _ _ _ _ Q I rx ry ⟨_, _, rdb_int hd, rdb_int he, hQ⟩
  · cases hg; exact op_le pins s σ H _ _ _ _ Q I rx ry ⟨_, _, rdb_int hd, rdb_int he, hQ⟩
  · cases hg; exact op_gt pins s σ H _ _ _ _ Q I rx ry ⟨_, _, rdb_int hd, rdb_int he, hQ⟩
  · cases hg; exact op_ge pins s σ H _ _ _ _ Q I rx ry ⟨_, _, rdb_int hd, rdb_int he, hQ⟩
  · cases hg; exact op_lt_str pins s σ H _ _ _ _ Q I rx ry ⟨_, _, rdb_str hd, rdb_str he, hQ⟩
  · cases hg; exact op_le_str pins s σ H _ _ _ _ Q I rx ry ⟨_, _, rdb_str hd, rdb_str he, hQ⟩
  · cases hg; exact op_gt_str pins s σ H _ _ _ _ Q I rx ry ⟨_, _, rdb_str hd, rdb_str he, hQ⟩
  · cases hg; exact op_ge_str pins s σ H _ _ _ _ Q I rx ry ⟨_, _, rdb_str hd, rdb_str he, hQ⟩
  · exact absurd rfl n1
  · exact absurd rfl n2
  · obtain ⟨a, vs, rfl, qg, qh, r⟩ := rdb_tup sb he
    obtain ⟨f1, f2, f3⟩ := vin_ok hg hd r
    exact op_in_seq pins s σ H _ _ _ _ Q I rx ry ⟨a, vs, rfl, .inr (hK ▸ qh), f1, f2, by rw [if_neg (by decide), f3]; exact hQ⟩
  · obtain ⟨a, vs, rfl, qh, r⟩ := rdb_lst sb he
    obtain ⟨f1, f2, f3⟩ := vin_ok hg hd r
    exact op_in_seq pins s σ H _ _ _ _ Q I rx ry ⟨a, vs, rfl, .inl (SqL.of qh), f1, f2, by rw [if_neg (by decide), f3]; exact hQ⟩
  · cases e1 : vin d _ with
    | none => rw [e1] at hg; cases hg
    | some b0 =>
      rw [e1] at hg
      cases hg
      obtain ⟨a, vs, rfl, qg, qh, r⟩ := rdb_tup sb he
      obtain ⟨f1, f2, f3⟩ := vin_ok e1 hd r
      exact op_notIn_seq pins s σ H _ _ _ _ Q I rx ry ⟨a, vs, rfl, .inr (hK ▸ qh), f1, f2, by rw [if_pos rfl, f3]; exact hQ⟩
  · cases e1 : vin d _ with
    | none => rw [e1] at hg; cases hg
    | some b0 =>
      rw [e1] at hg
      cases hg
      obtain ⟨a, vs, rfl, qh, r⟩ := rdb_lst sb he
      obtain ⟨f1, f2, f3⟩ := vin_ok e1 hd r
      exact op_notIn_seq pins s σ H _ _ _ _ Q I rx ry ⟨a, vs, rfl, .inl (SqL.of qh), f1, f2, by rw [if_pos rfl, f3]; exact hQ⟩
  · rename_i kvs
    split at hg
    · rename_i k ek
      cases hg
      obtain ⟨a, vs, rfl, qh, r⟩ := rdb_dct sb he
      have hx := key_of ek hd
      subst hx
      obtain rfl : u = Value.ref a := ry
      refine d_in hu1 I (DGet.k qh) rx fun s' I' => ?_
      have : (valV vs k).isSome = (dget kvs k).isSome := by
        rcases r.get k with ⟨h1, h2⟩ | ⟨_, _, h1, h2, _⟩ <;> rw [h1, h2] <;> rfl
      rw [this]
      exact ⟨.bl _, H, I', rfl, hQ⟩
    · cases hg
  · rename_i kvs
    split at hg
    · rename_i k ek
      cases hg
      obtain ⟨a, vs, rfl, qh, r⟩ := rdb_dct sb he
      have hx := key_of ek hd
      subst hx
      obtain rfl : u = Value.ref a := ry
      refine d_notIn hu1 I (DGet.k qh) rx fun s' I' => ?_
      have : (valV vs k).isSome = (dget kvs k).isSome := by
        rcases r.get k with ⟨h1, h2⟩ | ⟨_, _, h1, h2, _⟩ <;> rw [h1, h2] <;> rfl
      rw [this]
      exact ⟨.bl _, H, I', rfl, hQ⟩
    · cases hg
  · rename_i sg z
    split at hg
    · rename_i c ec
      cases hg
      have hs : sg = ⟨#[c]⟩ := by
        unfold isSign at ec
        split at ec
        · rename_i c' e'
          cases ec
          obtain ⟨⟨l⟩⟩ := sg
          simp only at e'
          rw [e']
        · cases ec
      subst hs
      exact op_in_sign pins s σ H _ _ _ _ Q I rx ry ⟨c, z, rdb_str hd, rdb_str he, hQ⟩
    · cases hg
  · rename_i sg z
    split at hg
    · rename_i c ec
      cases hg
      have hs : sg = ⟨#[c]⟩ := by
        unfold isSign at ec
        split at ec
        · rename_i c' e'
          cases ec
          obtain ⟨⟨l⟩⟩ := sg
          simp only at e'
          rw [e']
        · cases ec
      subst hs
      exact op_notIn_sign pins s σ H _ _ _ _ Q I rx ry ⟨c, z, rdb_str hd, rdb_str he, hQ⟩
    · cases hg
  · rename_i sg j
    split at hg
    · rename_i kvs ek
      cases hg
      obtain ⟨es, n, D, key⟩ := kd_ns KD ek
      have D' : KDict X.K X.w (W.kd j) es n := hK ▸ D
      rcases key sg with ⟨h1, h2⟩ | ⟨d0, v0, u0, h1, h2, _⟩
      · exact op_in_kd D' pins s σ H _ _ _ _ Q I rx ry ⟨sg, _, rdb_str hd, rdb_kd he, hK ▸ h2, by unfold sget at hQ; rw [h1] at hQ; exact hQ⟩
      · exact op_in_kd D' pins s σ H _ _ _ _ Q I rx ry ⟨sg, _, rdb_str hd, rdb_kd he, hK ▸ h2, by unfold sget at hQ; rw [h1] at hQ; exact hQ⟩
    · cases hg
  · rename_i sg j
    split at hg
    · rename_i kvs ek
      cases hg
      obtain ⟨es, n, D, key⟩ := kd_ns KD ek
      have D' : KDict X.K X.w (W.kd j) es n := hK ▸ D
      rcases key sg with ⟨h1, h2⟩ | ⟨d0, v0, u0, h1, h2, _⟩
      · exact op_notIn_kd D' pins s σ H _ _ _ _ Q I rx ry ⟨sg, _, rdb_str hd, rdb_kd he, hK ▸ h2, by unfold sget at hQ; rw [h1] at hQ; exact hQ⟩
      · exact op_notIn_kd D' pins s σ H _ _ _ _ Q I rx ry ⟨sg, _, rdb_str hd, rdb_kd he, hK ▸ h2, by unfold sget at hQ; rw [h1] at hQ; exact hQ⟩
    · cases hg
  · cases hg

/-! ### subscripts, slices -/
def R2V (W : Wr) (g : Val → Val → Option Val) : R2 := fun x y H Q => ∃ G d e r, Sub G H ∧ Rdb W H G d x ∧ Rdb W H G e y ∧ g d e = some r ∧ ∀ v, Rep W G r v → Q v H
theorem atI_reps {G : Hp} {ds : List Val} {vs : List V} {i : Int} {d : Val} (r : Reps W G ds vs) (h : atI ds i = some d) : ∃ v, atI vs i = some v ∧ Rep W G d v := by
  unfold atI at h ⊢
  rw [← r.length]
  cases e : ixN ds.length i with
  | none => rw [e] at h; cases h
  | some j =>
    rw [e] at h
    exact r.get h
theorem atI_map {α β : Type} {f : α → β} {xs : List α} {i : Int} {x : α} (h : atI xs i = some x) : atI (xs.map f) i = some (f x) := by
  unfold atI at h ⊢
  rw [List.length_map]
  cases e : ixN xs.length i with
  | none => rw [e] at h; cases h
  | some j =>
    rw [e] at h
    have h' : xs[j]? = some x := h
    show (xs.map f)[j]? = some (f x)
    rw [List.getElem?_map, h']; rfl
theorem ixS (hK : X.K = W.K) (hu : X.A.units + 64 < cLine) {T : List (List (Str × Val))} (KD : KdOk W X.w T) : IxR X (R2V W (item T)) := by
  intro value slice pins s σ H x y v u Q I rx ry h hs
  obtain ⟨G, d, e, r, sb, hd, he, hg, hQ⟩ := h
  have hu1 : X.A.units + 1 < cLine := by omega
  unfold item at hg
  split at hg
  · obtain ⟨a, vs, rfl, qg, qh, rr⟩ := rdb_tup sb hd
    have hy := rdb_int he
    subst hy
    obtain ⟨z, h1, h2⟩ := atI_reps rr hg
    exact ix_tup value slice pins s σ H _ _ _ _ Q I rx ry ⟨a, vs, _, z, rfl, rfl, hK ▸ qh, h1, hQ z h2⟩ hs
  · obtain ⟨a, vs, rfl, qh, rr⟩ := rdb_lst sb hd
    have hy := rdb_int he
    subst hy
    obtain ⟨z, h1, h2⟩ := atI_reps rr hg
    exact ix_list value slice pins s σ H _ _ _ _ Q I rx ry ⟨a, vs, _, z, rfl, rfl, SqL.of qh, h1, hQ z h2⟩ hs
  · obtain ⟨a, rfl, qh⟩ := rdb_scr sb hd
    have hy := rdb_int he
    subst hy
    rename_i is i
    cases e1 : atI is i with
    | none => rw [e1] at hg; cases hg
    | some k =>
      rw [e1] at hg
      cases hg
      exact ix_list value slice pins s σ H _ _ _ _ Q I rx ry ⟨a, _, _, _, rfl, rfl, hK ▸ qh, atI_map e1, hQ _ (.int k)⟩ hs
  · rename_i z i
    split at hg
    · rename_i hz
      cases e1 : atI z.cps.toList i with
      | none => rw [e1] at hg; cases hg
      | some c =>
        rw [e1] at hg
        cases hg
        exact ix_str value slice pins s σ H _ _ _ _ Q I rx ry ⟨z, i, c, rdb_str hd, rdb_int he, Nat.le_trans hz cap_le, e1, hQ _ (.str _)⟩ hs
    · cases hg
  · rename_i kvs kx
    split at hg
    · rename_i k ek
      obtain ⟨a, vs, rfl, qh, rr⟩ := rdb_dct sb hd
      have hy := key_of ek he
      subst hy
      obtain rfl : v = Value.ref a := rx
      rcases rr.get k with ⟨h1, _⟩ | ⟨d1, v1, h1, h2, h3⟩
      · rw [h1] at hg; cases hg
      · rw [h1] at hg
        cases hg
        have g := DGet.k (k := k) qh
        exact tail_any (dict_typeIs I g) slot_dict_getitem.lookup (d_getItem hu1 I (h2 ▸ g) ry fun w' s' I' rw' => ⟨v1, H, I', rw', hQ _ h3⟩) hs
    · cases hg
  · rename_i j sg
    split at hg
    · rename_i kvs ek
      obtain ⟨es, n, D, key⟩ := kd_ns KD ek
      rcases key sg with ⟨h1, h2⟩ | ⟨d0, v0, u0, h1, h2, h3, h4⟩
      · unfold sget at hg; rw [h1] at hg; cases hg
      · unfold sget at hg
        rw [h1] at hg
        cases hg
        exact ix_kdict value slice pins s σ H _ _ _ _ Q I rx ry ⟨W.kd j, sg, v0, rdb_kd hd, rdb_str he, ⟨es, n, u0, hK ▸ D.at_, D.lit, hK ▸ h2, h3⟩, hQ _ (h4.mono fun _ _ z => absurd z (by simp))⟩ hs
    · cases hg
  · cases hg
theorem cutW_reps {G : Hp} {ds : List Val} {vs : List V} (r : Reps W G ds vs) (lo hi : Option Int) : Reps W G (cutW ds lo hi) (cutV vs lo hi) := by
  unfold cutW cutV
  rw [r.length]
  exact (r.drop _).take _
theorem slS (hK : X.K = W.K) : SlR X (fun x lo hi H Q => ∃ G d r, Sub G H ∧ Rdb W H G d x ∧ slice d lo hi = some r ∧ ∀ v H' G', AR W H G r v H' G' → Q v H') := by
  intro pins s σ H x v vl vu lo hi sl Q I rx hs pl pu h
  obtain ⟨G, d, r, sb, hd, hg, hQ⟩ := h
  unfold slice at hg
  split at hg
  · cases hg
    obtain ⟨a, vs, rfl, qg, qh, rr⟩ := rdb_tup sb hd
    refine sl_tupA pins s σ H _ _ vl vu lo hi sl Q I rx hs pl pu ⟨a, vs, rfl, hK ▸ qh, fun e => ?_, fun n p hp => ?_⟩
    · have r2 := cutW_reps rr lo hi
      have e2 : cutV vs lo hi = vs := by
        unfold cutV
        rw [e.1, e.2]; simp
      rw [e2] at r2
      exact hQ _ _ _ (.same sb (.tup qg r2))
    · exact hQ _ _ _ (.newTup sb hp (cutW_reps rr lo hi))
  · cases hg
    obtain ⟨a, vs, rfl, qh, rr⟩ := rdb_lst sb hd
    exact sl_list pins s σ H _ _ vl vu lo hi sl Q I rx hs pl pu ⟨a, vs, rfl, SqL.of qh, fun p hp => hQ _ _ _ (.newLst sb hp (cutW_reps rr lo hi))⟩
  · cases hg
    obtain ⟨a, rfl, qh⟩ := rdb_scr sb hd
    exact sl_list pins s σ H _ _ vl vu lo hi sl Q I rx hs pl pu ⟨a, _, rfl, hK ▸ qh, fun p hp => hQ _ _ _ (.newLst sb hp (cutW_reps (Reps.ints G _) lo hi))⟩
  · cases hg
end
end Eng
end
section
set_option Elab.async false
set_option linter.all false
set_option maxRecDepth 100000
set_option maxHeartbeats 4000000
/-! EE: built-in functions over trees. -/
namespace Eng
open PySem PySem.Spec PyProof.Rows L2
/-! ### sorted texts -/
theorem ltCps_eq : ∀ a b : List Nat, ltCps a b = decide (a < b)
  | [], [] => rfl
  | [], _ :: _ => by simp [ltCps]
  | _ :: _, [] => by simp [ltCps]
  | a :: r, b :: t => by
    unfold ltCps
    rw [ltCps_eq r t, Bool.eq_iff_iff]
    simp [List.cons_lt_cons_iff]
theorem str_ext {a b : Str} (h : a.cps.toList = b.cps.toList) : a = b := by
  obtain ⟨⟨a⟩⟩ := a
  obtain ⟨⟨b⟩⟩ := b
  simp only at h
  rw [h]
def leS (a b : Str) : Prop := ¬ b.cps.toList < a.cps.toList
theorem leS_trans {a b c : Str} (h : leS a b) (k : leS b c) : leS a c := fun z => by
  unfold leS at h k
  exact (List.not_lt.mpr (List.le_trans (List.not_lt.mp h) (List.not_lt.mp k))) z
theorem leS_total {a b : Str} (h : ¬ leS a b) : leS b a := by
  unfold leS at h ⊢
  have := Classical.not_not.mp h
  exact fun z => absurd (List.lt_trans z this) (List.lt_irrefl _)
theorem leS_anti {a b : Str} (h : leS a b) (k : leS b a) : a = b := str_ext (List.le_antisymm (List.not_lt.mp h) (List.not_lt.mp k))
theorem rising_of : ∀ (p : Str) (xs : List Str), risingS p xs = true → (∀ y ∈ xs, leS p y) ∧ xs.Pairwise leS
  | _, [], _ => ⟨by simp, .nil⟩
  | p, x :: r, h => by
    unfold risingS at h
    rw [Bool.and_eq_true, ltCps_eq] at h
    obtain ⟨h1, h2⟩ := h
    have hp : leS p x := by simpa [leS] using h1
    obtain ⟨k1, k2⟩ := rising_of x r h2
    refine ⟨fun y hy => ?_, .cons k1 k2⟩
    rcases List.mem_cons.mp hy with rfl | hy
    · exact hp
    · exact leS_trans hp (k1 y hy)
theorem sortedS_pw {xs : List Str} (h : sortedS xs = true) : xs.Pairwise leS := by
  cases xs with
  | nil => exact .nil
  | cons x r =>
    obtain ⟨k1, k2⟩ := rising_of x r h
    exact .cons k1 k2
theorem insS_perm (s : Str) : ∀ xs : List Str, (insS s xs).Perm (s :: xs)
  | [] => .refl _
  | t :: ts => by
    unfold insS
    split
    · exact ((insS_perm s ts).cons t).trans (.swap s t ts)
    · exact .refl _
theorem srtS_perm : ∀ xs : List Str, (srtS xs).Perm xs
  | [] => .refl _
  | x :: xs => (insS_perm x (srtS xs)).trans ((srtS_perm xs).cons x)
theorem insS_pw (s : Str) : ∀ xs : List Str, xs.Pairwise leS → (insS s xs).Pairwise leS
  | [], _ => List.pairwise_singleton _ _
  | t :: ts, h => by
    obtain ⟨h1, h2⟩ := List.pairwise_cons.mp h
    unfold insS
    split
    · rename_i hl
      have hts : leS t s := leS_total (by unfold leS; simpa using hl)
      refine List.pairwise_cons.mpr ⟨fun y hy => ?_, insS_pw s ts h2⟩
      rcases List.mem_cons.mp ((insS_perm s ts).mem_iff.mp hy) with rfl | hy
      · exact hts
      · exact h1 y hy
    · rename_i hl
      have hst : leS s t := by unfold leS; simpa using hl
      refine List.pairwise_cons.mpr ⟨fun y hy => ?_, h⟩
      rcases List.mem_cons.mp hy with rfl | hy
      · exact hst
      · exact leS_trans hst (h1 y hy)
theorem srtS_pw : ∀ xs : List Str, (srtS xs).Pairwise leS
  | [] => .nil
  | x :: xs => insS_pw x _ (srtS_pw xs)
theorem srtS_of {ys xs : List Str} (hp : ys.Perm xs) (hs : sortedS ys = true) : ys = srtS xs :=
  List.Perm.eq_of_pairwise (le := leS) (fun a b _ _ h k => leS_anti h k) (sortedS_pw hs) (srtS_pw xs) (hp.trans (srtS_perm xs).symm)
theorem insI_perm (s : Int) : ∀ xs : List Int, (insI s xs).Perm (s :: xs)
  | [] => .refl _
  | t :: ts => by
    unfold insI
    split
    · exact ((insI_perm s ts).cons t).trans (.swap s t ts)
    · exact .refl _
theorem srtI_perm : ∀ xs : List Int, (srtI xs).Perm xs
  | [] => .refl _
  | x :: xs => (insI_perm x (srtI xs)).trans ((srtI_perm xs).cons x)
theorem insI_pw (s : Int) : ∀ xs : List Int, xs.Pairwise (· ≤ ·) → (insI s xs).Pairwise (· ≤ ·)
  | [], _ => List.pairwise_singleton _ _
  | t :: ts, h => by
    obtain ⟨h1, h2⟩ := List.pairwise_cons.mp h
    unfold insI
    split
    · rename_i hl
      refine List.pairwise_cons.mpr ⟨fun y hy => ?_, insI_pw s ts h2⟩
      rcases List.mem_cons.mp ((insI_perm s ts).mem_iff.mp hy) with rfl | hy
      · omega
      · exact h1 y hy
    · rename_i hl
      refine List.pairwise_cons.mpr ⟨fun y hy => ?_, h⟩
      rcases List.mem_cons.mp hy with rfl | hy
      · omega
      · have := h1 y hy; omega
theorem srtI_pw : ∀ xs : List Int, (srtI xs).Pairwise (· ≤ ·)
  | [] => .nil
  | x :: xs => insI_pw x _ (srtI_pw xs)
theorem srtI_of {ys xs : List Int} (hp : ys.Perm xs) (hs : ys.Pairwise (· ≤ ·)) : ys = srtI xs :=
  List.Perm.eq_of_pairwise (le := (· ≤ ·)) (fun a b _ _ h k => by omega) hs (srtI_pw xs) (hp.trans (srtI_perm xs).symm)

/-! ### calls -/
section
variable (W : Wr)
def Rdbs (H G : Hp) : List Val → List V → Prop := Paired (Rdb W H G)
def bR (f : List Val → Option RV) : List V → Hp → VK → Prop := fun xs H Q => ∃ G ds r, Sub G H ∧ Rdbs W H G ds xs ∧ f ds = some r ∧ ∀ v H' G', AR W H G r v H' G' → Q v H'
end
section
variable {X : Cx} {W : Wr} {G H : Hp}
theorem rdbs1 {d : Val} {xs : List V} (h : Rdbs W H G [d] xs) : ∃ x, xs = [x] ∧ Rdb W H G d x := by
  cases h with
  | cons p q => cases q; exact ⟨_, rfl, p⟩
theorem rdbs2 {d e : Val} {xs : List V} (h : Rdbs W H G [d, e] xs) : ∃ x y, xs = [x, y] ∧ Rdb W H G d x ∧ Rdb W H G e y := by
  cases h with
  | cons p q =>
    obtain ⟨y, rfl, r⟩ := rdbs1 q
    exact ⟨_, _, rfl, p, r⟩
theorem rdbs3 {d e f : Val} {xs : List V} (h : Rdbs W H G [d, e, f] xs) : ∃ x y z, xs = [x, y, z] ∧ Rdb W H G d x ∧ Rdb W H G e y ∧ Rdb W H G f z := by
  cases h with
  | cons p q =>
    obtain ⟨y, z, rfl, r⟩ := rdbs2 q
    exact ⟨_, _, _, rfl, p, r⟩
theorem RepK.keyVs {ds : List (Key × Val)} {vs : List (Key × V)} (r : RepK W G ds vs) : Reps W G (ds.map fun kv => keyV kv.1) (vs.map fun kv => kV kv.1) := by
  induction ds generalizing vs with
  | nil => cases r; exact .nil
  | cons d ds ih =>
    cases r with
    | @cons k d v ds vs q r =>
      refine .cons ?_ (ih r)
      cases k with
      | inl i => exact .int i
      | inr s => exact .str s

theorem blt_len (hK : X.K = W.K) : CallR X (.builtin "len") (bR W bLen) := by
  intro pins s σ H xs us Q I r h
  obtain ⟨G, ds, res, sb, rd, hg, hQ⟩ := h
  unfold bLen at hg
  split at hg
  · cases hg
    obtain ⟨x, rfl, h1⟩ := rdbs1 rd
    obtain ⟨a, vs, rfl, qg, qh, rr⟩ := rdb_tup sb h1
    exact call_len_seq pins s σ H _ us Q I r ⟨a, vs, rfl, .inr (hK ▸ qh), by rw [← rr.length]; exact hQ _ _ _ (.same sb (.int _))⟩
  · cases hg
    obtain ⟨x, rfl, h1⟩ := rdbs1 rd
    obtain ⟨a, vs, rfl, qh, rr⟩ := rdb_lst sb h1
    exact call_len_seq pins s σ H _ us Q I r ⟨a, vs, rfl, .inl (SqL.of qh), by rw [← rr.length]; exact hQ _ _ _ (.same sb (.int _))⟩
  · cases hg
    obtain ⟨x, rfl, h1⟩ := rdbs1 rd
    obtain ⟨a, rfl, qh⟩ := rdb_scr sb h1
    exact call_len_seq pins s σ H _ us Q I r ⟨a, _, rfl, .inl (hK ▸ qh), by rw [List.length_map]; exact hQ _ _ _ (.same sb (.int _))⟩
  · cases hg
    obtain ⟨x, rfl, h1⟩ := rdbs1 rd
    obtain ⟨a, vs, rfl, qh, rr⟩ := rdb_dct sb h1
    exact call_lenD pins s σ H _ us Q I r ⟨a, vs, rfl, qh, by rw [← rr.length]; exact hQ _ _ _ (.same sb (.int _))⟩
  · split at hg
    · rename_i hz
      cases hg
      obtain ⟨x, rfl, h1⟩ := rdbs1 rd
      have := rdb_str h1
      subst this
      exact call_len_str pins s σ H _ us Q I r ⟨_, rfl, Nat.le_trans hz cap_le, hQ _ _ _ (.same sb (.int _))⟩
    · cases hg
  · cases hg
theorem blt_tup (hK : X.K = W.K) : CallR X (.type "tuple") (bR W bTup) := by
  intro pins s σ H xs us Q I r h
  obtain ⟨G, ds, res, sb, rd, hg, hQ⟩ := h
  unfold bTup at hg
  split at hg
  · cases hg
    obtain ⟨x, rfl, h1⟩ := rdbs1 rd
    obtain ⟨a, vs, rfl, qh, rr⟩ := rdb_lst sb h1
    exact call_tuple_of pins s σ H _ us Q I r ⟨a, vs, rfl, .inl ⟨SqL.of qh, fun l hl => hQ _ _ _ (.newTup sb hl rr)⟩⟩
  · cases hg
    obtain ⟨x, rfl, h1⟩ := rdbs1 rd
    obtain ⟨a, vs, rfl, qg, qh, rr⟩ := rdb_tup sb h1
    exact call_tuple_of pins s σ H _ us Q I r ⟨a, vs, rfl, .inr ⟨hK ▸ qh, hQ _ _ _ (.same sb (.tup qg rr))⟩⟩
  · cases hg
theorem blt_lst (hK : X.K = W.K) (hc : X.calm = true) : CallR X (.type "list") (bR W bLst) := by
  intro pins s σ H xs us Q I r h
  obtain ⟨G, ds, res, sb, rd, hg, hQ⟩ := h
  unfold bLst at hg
  split at hg
  · cases hg
    obtain ⟨x, rfl, h1⟩ := rdbs1 rd
    obtain ⟨a, vs, rfl, qh, rr⟩ := rdb_lst sb h1
    exact call_list_of pins s σ H _ us Q I r ⟨a, vs, rfl, .inl (SqL.of qh), fun l hl => hQ _ _ _ (.newLst sb hl rr)⟩
  · cases hg
    obtain ⟨x, rfl, h1⟩ := rdbs1 rd
    obtain ⟨a, vs, rfl, qg, qh, rr⟩ := rdb_tup sb h1
    exact call_list_of pins s σ H _ us Q I r ⟨a, vs, rfl, .inr (hK ▸ qh), fun l hl => hQ _ _ _ (.newLst sb hl rr)⟩
  · cases hg
    obtain ⟨x, rfl, h1⟩ := rdbs1 rd
    obtain ⟨a, vs, rfl, qh, rr⟩ := rdb_dct sb h1
    exact call_list_dK hc pins s σ H _ us Q I r ⟨a, vs, rfl, qh, fun l hl => hQ _ _ _ (.newLst sb hl rr.keyVs)⟩
  · cases hg
theorem blt_int : CallR X (.type "int") (bR W bInt) := by
  intro pins s σ H xs us Q I r h
  obtain ⟨G, ds, res, sb, rd, hg, hQ⟩ := h
  unfold bInt at hg
  split at hg
  · cases hg
    obtain ⟨x, rfl, h1⟩ := rdbs1 rd
    have := rdb_int h1
    subst this
    exact call_int1 pins s σ H _ us Q I r (.inl ⟨_, rfl, hQ _ _ _ (.same sb (.int _))⟩)
  · cases hg
    obtain ⟨x, rfl, h1⟩ := rdbs1 rd
    have := rdb_bl h1
    subst this
    exact call_int1 pins s σ H _ us Q I r (.inr ⟨_, rfl, hQ _ _ _ (.same sb (.int _))⟩)
  · cases hg
theorem blt_abs : CallR X (.builtin "abs") (bR W bAbs) := by
  intro pins s σ H xs us Q I r h
  obtain ⟨G, ds, res, sb, rd, hg, hQ⟩ := h
  unfold bAbs at hg
  split at hg
  · rename_i i
    cases hg
    obtain ⟨x, rfl, h1⟩ := rdbs1 rd
    have := rdb_int h1
    subst this
    have e : (if i < 0 then -i else i) = (i.natAbs : Int) := by split <;> omega
    exact call_abs pins s σ H _ us Q I r ⟨i, rfl, by rw [e]; exact hQ _ _ _ (.same sb (.int _))⟩
  · cases hg
theorem blt_divmod : CallR X (.builtin "divmod") (bR W bDivmod) := by
  intro pins s σ H xs us Q I r h
  obtain ⟨G, ds, res, sb, rd, hg, hQ⟩ := h
  unfold bDivmod at hg
  split at hg
  · rename_i i j
    split at hg
    · rename_i hs
      cases hg
      simp only [isNat31, Bool.and_eq_true, decide_eq_true_eq] at hs
      obtain ⟨x, y, rfl, h1, h2⟩ := rdbs2 rd
      have := rdb_int h1
      subst this
      have := rdb_int h2
      subst this
      exact call_divmod pins s σ H _ us Q I r ⟨i, j, rfl, ⟨hs.1, hs.2⟩, fun p hp => hQ _ _ _ (.newTup sb hp (.cons (.int _) (.cons (.int _) .nil)))⟩
    · cases hg
  · cases hg
theorem blt_max (hc : X.calm = true) : CallR X (.builtin "max") (bR W bMax) := by
  intro pins s σ H xs us Q I r h
  obtain ⟨G, ds, res, sb, rd, hg, hQ⟩ := h
  unfold bMax at hg
  split at hg
  · rename_i i j
    cases hg
    obtain ⟨x, y, rfl, h1, h2⟩ := rdbs2 rd
    have := rdb_int h1
    subst this
    have := rdb_int h2
    subst this
    have e : (if j > i then j else i) = max i j := by split <;> omega
    exact call_max2 hc pins s σ H _ us Q I r ⟨i, j, rfl, by rw [e]; exact hQ _ _ _ (.same sb (.int _))⟩
  · cases hg
theorem blt_min (hc : X.calm = true) : CallR X (.builtin "min") (bR W bMin) := by
  intro pins s σ H xs us Q I r h
  obtain ⟨G, ds, res, sb, rd, hg, hQ⟩ := h
  unfold bMin at hg
  split at hg
  · rename_i i j
    cases hg
    obtain ⟨x, y, rfl, h1, h2⟩ := rdbs2 rd
    have := rdb_int h1
    subst this
    have := rdb_int h2
    subst this
    have e : (if j < i then j else i) = min i j := by split <;> omega
    exact call_min2 hc pins s σ H _ us Q I r ⟨i, j, rfl, by rw [e]; exact hQ _ _ _ (.same sb (.int _))⟩
  · cases hg
theorem blt_sum (hc : X.calm = true) : CallR X (.builtin "sum") (bR W bSum) := by
  intro pins s σ H xs us Q I r h
  obtain ⟨G, ds, res, sb, rd, hg, hQ⟩ := h
  unfold bSum at hg
  split at hg
  · split at hg
    · rename_i is e
      cases hg
      obtain ⟨x, rfl, h1⟩ := rdbs1 rd
      obtain ⟨a, vs, rfl, qh, rr⟩ := rdb_lst sb h1
      have := rr.of_ints e
      subst this
      exact cr_sum hc pins s σ H _ us Q I r ⟨a, is, rfl, SqL.of qh, hQ _ _ _ (.same sb (.int _))⟩
    · cases hg
  · cases hg
theorem blt_all (hc : X.calm = true) : CallR X (.builtin "all") (bR W bAll) := by
  intro pins s σ H xs us Q I r h
  obtain ⟨G, ds, res, sb, rd, hg, hQ⟩ := h
  unfold bAll at hg
  split at hg
  · split at hg
    · rename_i is e
      cases hg
      obtain ⟨x, rfl, h1⟩ := rdbs1 rd
      obtain ⟨a, vs, rfl, qh, rr⟩ := rdb_lst sb h1
      have := rr.of_bls e
      subst this
      exact cr_all hc pins s σ H _ us Q I r ⟨a, is, rfl, SqL.of qh, hQ _ _ _ (.same sb (.bl _))⟩
    · cases hg
  · cases hg
theorem blt_any (hc : X.calm = true) : CallR X (.builtin "any") (bR W bAny) := by
  intro pins s σ H xs us Q I r h
  obtain ⟨G, ds, res, sb, rd, hg, hQ⟩ := h
  unfold bAny at hg
  split at hg
  · split at hg
    · rename_i is e
      cases hg
      obtain ⟨x, rfl, h1⟩ := rdbs1 rd
      obtain ⟨a, vs, rfl, qh, rr⟩ := rdb_lst sb h1
      have := rr.of_bls e
      subst this
      exact cr_any hc pins s σ H _ us Q I r ⟨a, is, rfl, SqL.of qh, hQ _ _ _ (.same sb (.bl _))⟩
    · cases hg
  · cases hg
theorem blt_sorted : CallR X (.builtin "sorted") (bR W bSorted) := by
  intro pins s σ H xs us Q I r h
  obtain ⟨G, ds, res, sb, rd, hg, hQ⟩ := h
  unfold bSorted at hg
  split at hg
  · split at hg
    · rename_i ss e
      split at hg
      · rename_i hl
        cases hg
        obtain ⟨x, rfl, h1⟩ := rdbs1 rd
        obtain ⟨a, vs, rfl, qh, rr⟩ := rdb_lst sb h1
        have := rr.of_strs e
        subst this
        refine cr_sortedS pins s σ H _ us Q I r ⟨a, ss, rfl, SqL.of qh, hl, fun ys p hp hs hn => ?_⟩
        rw [srtS_of hp hs]
        exact hQ _ _ _ (.newLst sb hn (Reps.strs G _))
      · cases hg
    · split at hg
      · rename_i is e
        split at hg
        · rename_i hl
          cases hg
          obtain ⟨x, rfl, h1⟩ := rdbs1 rd
          obtain ⟨a, vs, rfl, qh, rr⟩ := rdb_lst sb h1
          have := rr.of_ints e
          subst this
          refine cr_sorted pins s σ H _ us Q I r ⟨a, is, rfl, SqL.of qh, hl, fun ys p hp hs hn => ?_⟩
          rw [srtI_of hp hs]
          exact hQ _ _ _ (.newLst sb hn (Reps.ints G _))
        · cases hg
      · cases hg
  · cases hg
end
end Eng
end
section
set_option Elab.async false
set_option linter.all false
set_option maxRecDepth 100000
set_option maxHeartbeats 4000000
/-! EF: meanings of expressions. -/
namespace Eng
open PySem PySem.Spec PyProof.Rows L2
section
variable (W : Wr)
def tM (m : Env → Option (RV × Env)) : TE := fun σ H Q => ∃ G ε r ε', Rel W ε σ H G ∧ m ε = some (r, ε') ∧ ∀ v H' G', Stp W ε σ H G ε' H' G' → RR W H ε' σ H' G' r v → Q v H'
def tV (m : Env → Option (Val × Env)) : TE := fun σ H Q => ∃ G ε r ε', Rel W ε σ H G ∧ m ε = some (r, ε') ∧ ∀ v H' G', Stp W ε σ H G ε' H' G' → Rep W G' r v → Q v H'
def tTr (m : Env → Option (Bool × Env)) : TT := fun σ H Q => ∃ G ε r ε', Rel W ε σ H G ∧ m ε = some (r, ε') ∧ ∀ H' G', Stp W ε σ H G ε' H' G' → Q r H'
def tIv (m : Env → Option (Int × Env)) : TE := fun σ H Q => ∃ G ε r ε', Rel W ε σ H G ∧ m ε = some (r, ε') ∧ ∀ H' G', Stp W ε σ H G ε' H' G' → Q (.int r) H'
def tBv (m : Env → Option (Bool × Env)) : TE := fun σ H Q => ∃ G ε r ε', Rel W ε σ H G ∧ m ε = some (r, ε') ∧ ∀ H' G', Stp W ε σ H G ε' H' G' → Q (.bl r) H'
def tFs (m : Env → Option (List Val × Env)) : TA := fun σ H Q => ∃ G ε r ε', Rel W ε σ H G ∧ m ε = some (r, ε') ∧ ∀ v H' G', Stp W ε σ H G ε' H' G' → Reps W G' r v → Q v H'
/-- several results: each as it is, the new ones apart -/
inductive RRs (H0 : Hp) (ε : Env) (σ : L2.St) (H G : Hp) : List RV → List V → Prop
  | nil : RRs H0 ε σ H G [] []
  | cons {r : RV} {v : V} {rs : List RV} {vs : List V} : RR W H0 ε σ H G r v → (∀ d, r = .o d → ∀ (i : Nat) (d' : Val), rs[i]? = some (.o d') → vs[i]? ≠ some v) → RRs H0 ε σ H G rs vs → RRs H0 ε σ H G (r :: rs) (v :: vs)
def tAs (m : Env → Option (List RV × Env)) : TA := fun σ H Q => ∃ G ε r ε', Rel W ε σ H G ∧ m ε = some (r, ε') ∧ ∀ v H' G', Stp W ε σ H G ε' H' G' → RRs W H ε' σ H' G' r v → Q v H'
end
theorem PE.imp {X : Cx} {e : Expr} {t t' : TE} (h : PE X e t) (k : ∀ σ H Q, t' σ H Q → t σ H Q) : PE X e t' := ⟨fun pins s σ H Q I q => h.run pins s σ H Q I (k _ _ _ q)⟩
theorem PT.imp {X : Cx} {e : Expr} {t t' : TT} (h : PT X e t) (k : ∀ σ H Q, t' σ H Q → t σ H Q) : PT X e t' := ⟨fun pins s σ H Q I q => h.run pins s σ H Q I (k _ _ _ q)⟩

section
variable {W : Wr} {ε ε' ε1 ε2 : Env} {σ : L2.St} {H G H' G' H1 G1 H2 G2 : Hp}
/-- reading a slot -/
theorem look_b {i : Nat} {d : Val} (h : look (.b i) ε = some d) : ε[i]? = some (.val d) ∨ ε[i]? = some (.own d) ∨ ε[i]? = some (.lent d) := by
  unfold look at h
  simp only at h
  split at h
  · cases h; exact .inl (by assumption)
  · cases h; exact .inr (.inl (by assumption))
  · cases h; exact .inr (.inr (by assumption))
  · cases h
theorem look_rdb (rel : Rel W ε σ H G) {r : RV} {v : V} {d : Val} (h : look r ε = some d) (k : RR0 W ε σ H G r v) : Rdb W H G d v := by
  cases r with
  | v x => cases h; exact .inl k
  | o x =>
    cases h
    obtain ⟨a, e, o, _⟩ := k
    exact .inr ⟨a, e, o⟩
  | b i =>
    have k : σ[i]? = some (some v) := k
    rcases look_b h with e | e | e
    · obtain ⟨v', h1, h2⟩ := rel.val i d e
      rw [k] at h1; cases h1
      exact .inl h2
    · obtain ⟨a, h1, h2⟩ := rel.own i d (.inl e)
      rw [k] at h1; cases h1
      exact .inr ⟨a, rfl, h2⟩
    · obtain ⟨a, h1, h2⟩ := rel.own i d (.inr e)
      rw [k] at h1; cases h1
      exact .inr ⟨a, rfl, h2⟩
/-- the end of an operation that lays new things only -/
theorem AR.fin {r : RV} {v : V} (rel : Rel W ε σ H G) (a : AR W H G r v H' G') : Stp W ε σ H G ε H' G' ∧ RR W H ε σ H' G' r v := by
  obtain ⟨a, h⟩ := a
  refine ⟨a.stp rel, ?_⟩
  cases r with
  | v d => exact h
  | o d =>
    obtain ⟨p, e, n, o⟩ := h
    refine ⟨p, e, o, ?_, n⟩
    rintro ⟨i, ⟨d', hi⟩, hs⟩
    obtain ⟨b, h1, h2⟩ := rel.own i d' hi
    rw [hs] at h1; cases h1
    obtain ⟨u, hu⟩ := h2.there
    rw [hu] at n; cases n
  | b i => exact h.elim
theorem AR.fin0 {H0 : Hp} {r : RV} {v : V} (s : Stp W ε1 σ H0 G1 ε H G) (a : AR W H G r v H' G') : Stp W ε1 σ H0 G1 ε H' G' ∧ RR W H0 ε σ H' G' r v := by
  obtain ⟨h1, h2⟩ := a.fin s.rel
  refine ⟨s.trans h1, ?_⟩
  cases r with
  | v d => exact h2
  | o d =>
    obtain ⟨p, e, o, n, f⟩ := h2
    exact ⟨p, e, o, n, s.fresh f⟩
  | b i => exact h2
theorem set_get {ε : Env} {i j : Nat} {s : Slot} : (ε.set i s)[j]? = if i = j ∧ i < ε.length then some s else ε[j]? := by
  rw [List.getElem?_set]
  by_cases h : i = j
  · subst h
    by_cases h2 : i < ε.length
    · simp [h2]
    · simp only [h2, if_true, and_false, if_false]
      rw [List.getElem?_eq_none (by omega)]
  · simp [h]
/-- an object without slots is shut for good -/
theorem frz_tmp {H0 G0 : Hp} {ε0 : Env} {a : Addr} {o : HO} (s : Stp W ε0 σ H0 G0 ε H G) (ho : H a = some o) (g : G a = none) (n : ¬ OA ε σ a) (f : H0 a = none) : Stp W ε0 σ H0 G0 ε H (upd G a o) where
  rel :=
    { len := s.rel.len
      sub := fun b u e => by
        by_cases hb : b = a
        · subst hb; rw [upd_same] at e; cases e; exact ho
        · rw [upd_ne hb] at e; exact s.rel.sub _ _ e
      val := fun i d e => by
        obtain ⟨v, h1, h2⟩ := s.rel.val i d e
        exact ⟨v, h1, h2.mono (sub_upd g)⟩
      own := fun i d e => by
        obtain ⟨b, h1, h2⟩ := s.rel.own i d e
        have hb : b ≠ a := fun z => n ⟨i, ⟨d, e⟩, z ▸ h1⟩
        exact ⟨b, h1, h2.keep (sub_upd g) (fun _ e => e) (upd_ne hb)⟩
      apart := s.rel.apart }
  grow := s.grow.trans (sub_upd g)
  keep := s.keep
  newG := fun b u e m => by
    have hb : b ≠ a := fun z => by rw [z, f] at e; cases e
    rw [upd_ne hb]; exact s.newG b u e m
  oa := s.oa
  lent := s.lent
  un := s.un
  there := s.there
/-- a slot's own object is shut for good -/
theorem frz_slot {H0 G0 : Hp} {ε0 : Env} {i : Nat} {a : Addr} {d : Val} {o : HO} (s : Stp W ε0 σ H0 G0 ε H G) (hi : ε[i]? = some (.own d)) (hs : σ[i]? = some (some (.ref a))) (ho : H a = some o) (g : G a = none)
    (hr : Rep W (upd G a o) d (.ref a)) : Stp W ε0 σ H0 G0 (ε.set i (.val d)) H (upd G a o) := by
  have hlt : i < ε.length := (List.getElem?_eq_some_iff.mp hi).1
  have other : ∀ {j : Nat} {x : Slot}, (ε.set i (.val d))[j]? = some x → (j = i ∧ x = .val d) ∨ (j ≠ i ∧ ε[j]? = some x) := fun {j x} e => by
    rw [set_get] at e
    split at e
    · rename_i h
      cases e
      exact .inl ⟨h.1.symm, rfl⟩
    · rename_i h
      exact .inr ⟨fun z => h ⟨z.symm, hlt⟩, e⟩
  have own' : ∀ {j : Nat}, OwnS (ε.set i (.val d)) j → OwnS ε j ∧ j ≠ i := fun {j} ⟨x, h⟩ => by
    rcases h with h | h
    · rcases other h with ⟨_, z⟩ | ⟨n, z⟩
      · cases z
      · exact ⟨⟨x, .inl z⟩, n⟩
    · rcases other h with ⟨_, z⟩ | ⟨n, z⟩
      · cases z
      · exact ⟨⟨x, .inr z⟩, n⟩
  have oa' : ∀ b, OA (ε.set i (.val d)) σ b → OA ε σ b := fun b ⟨j, h1, h2⟩ => ⟨j, (own' h1).1, h2⟩
  refine ⟨⟨by rw [List.length_set]; exact s.rel.len, fun b u e => ?_, fun j x e => ?_, fun j x e => ?_, fun j k b h1 h2 => s.rel.apart j k b (own' h1).1 (own' h2).1⟩, s.grow.trans (sub_upd g), s.keep, fun b u e m => ?_, fun b z => s.oa b (oa' b z), fun j => ?_, fun j e => ?_, s.there⟩
  · by_cases hb : b = a
    · subst hb; rw [upd_same] at e; cases e; exact ho
    · rw [upd_ne hb] at e; exact s.rel.sub _ _ e
  · rcases other e with ⟨z, y⟩ | ⟨_, z⟩
    · cases y
      exact ⟨_, by rw [z]; exact hs, hr⟩
    · obtain ⟨v, h1, h2⟩ := s.rel.val j x z
      exact ⟨v, h1, h2.mono (sub_upd g)⟩
  · have oj : OwnS (ε.set i (.val d)) j := ⟨x, e⟩
    obtain ⟨oj1, hne⟩ := own' oj
    have e' : ε[j]? = some (.own x) ∨ ε[j]? = some (.lent x) := by
      rcases e with e | e
      · rcases other e with ⟨_, z⟩ | ⟨_, z⟩
        · cases z
        · exact .inl z
      · rcases other e with ⟨_, z⟩ | ⟨_, z⟩
        · cases z
        · exact .inr z
    obtain ⟨b, h1, h2⟩ := s.rel.own j x e'
    have hb : b ≠ a := fun z => hne (s.rel.apart j i a oj1 ⟨d, .inl hi⟩ (z ▸ h1) hs)
    exact ⟨b, h1, h2.keep (sub_upd g) (fun _ e => e) (upd_ne hb)⟩
  · have hb : b ≠ a := fun z => m (z ▸ s.oa a ⟨i, ⟨d, .inl hi⟩, hs⟩)
    rw [upd_ne hb]; exact s.newG b u e m
  · refine (s.lent j).trans ⟨fun ⟨x, e⟩ => ⟨x, ?_⟩, fun ⟨x, e⟩ => ⟨x, ?_⟩⟩
    · rw [set_get, if_neg]
      · exact e
      · rintro ⟨z, _⟩
        subst z
        rw [hi] at e; cases e
    · rcases other e with ⟨_, z⟩ | ⟨_, z⟩
      · cases z
      · exact z
  · have := s.un j e
    rw [set_get, if_neg]
    · exact this
    · rintro ⟨z, _⟩
      subst z
      rw [hi] at this; cases this
theorem own_rep {d : Val} {a : Addr} (h : OwnAt W H G d a) : ∃ o, H a = some o ∧ Rep W (upd G a o) d (.ref a) := by
  obtain ⟨g, h⟩ := h
  cases d with
  | lst ds =>
    obtain ⟨vs, e, r⟩ := h
    exact ⟨_, e, .lst upd_same (r.mono (sub_upd g))⟩
  | dct ds =>
    obtain ⟨vs, e, r⟩ := h
    exact ⟨_, e, .dct upd_same (r.mono (sub_upd g))⟩
  | ins c ds =>
    obtain ⟨dx, vs, e, r⟩ := h
    exact ⟨_, e, .ins upd_same (r.mono (sub_upd g))⟩
  | _ => exact h.elim
/-- a result becomes a value -/
theorem fz_step {H0 G0 : Hp} {ε0 : Env} {r : RV} {v : V} {d : Val} (s : Stp W ε0 σ H0 G0 ε H G) (k : RR W H0 ε σ H G r v) (h : fz r ε = some (d, ε')) : ∃ G', Stp W ε0 σ H0 G0 ε' H G' ∧ Rep W G' d v ∧ Sub G G' := by
  cases r with
  | v x => cases h; exact ⟨G, s, k, Sub.refl _⟩
  | o x =>
    cases h
    obtain ⟨a, rfl, o, n, f⟩ := k
    obtain ⟨u, hu, hr⟩ := own_rep o
    exact ⟨_, frz_tmp s hu o.1 n f, hr, sub_upd o.1⟩
  | b i =>
    have k : σ[i]? = some (some v) := k
    unfold fz at h
    simp only at h
    split at h
    · rename_i x e
      cases h
      obtain ⟨v', h1, h2⟩ := s.rel.val i _ e
      rw [k] at h1; cases h1
      exact ⟨G, s, h2, Sub.refl _⟩
    · rename_i x e
      cases h
      obtain ⟨a, h1, h2⟩ := s.rel.own i _ (.inl e)
      rw [k] at h1; cases h1
      obtain ⟨u, hu, hr⟩ := own_rep h2
      exact ⟨_, frz_slot s e k hu h2.1 hr, hr, sub_upd h2.1⟩
    · cases h
theorem tM_V {m : Env → Option (RV × Env)} {Q : VK} (h : tV W (fun ε => vlR (m ε)) σ H Q) : tM W m σ H Q := by
  obtain ⟨G, ε, d, ε2, rel, hm, hQ⟩ := h
  cases e : m ε with
  | none => simp only [e, vlR] at hm; cases hm
  | some p =>
    obtain ⟨r, ε1⟩ := p
    simp only [e, vlR] at hm
    refine ⟨G, ε, r, ε1, rel, e, fun v H' G' s k => ?_⟩
    obtain ⟨G2, s2, r2, _⟩ := fz_step s k hm
    exact hQ v H' G2 s2 r2
theorem tM_I {m : Env → Option (RV × Env)} {Q : VK} (h : tIv W (fun ε => ivR (m ε)) σ H Q) : tM W m σ H Q := by
  obtain ⟨G, ε, i, ε2, rel, hm, hQ⟩ := h
  cases e : m ε with
  | none => simp only [e, ivR] at hm; cases hm
  | some p =>
    obtain ⟨r, ε1⟩ := p
    simp only [e, ivR] at hm
    split at hm
    · rename_i b hl
      cases hm
      refine ⟨G, ε, r, ε2, rel, e, fun v H' G' s k => ?_⟩
      rw [rdb_int (look_rdb s.rel hl k.r0)]
      exact hQ H' G' s
    · cases hm
theorem tM_B {m : Env → Option (RV × Env)} {Q : VK} (h : tBv W (fun ε => blR (m ε)) σ H Q) : tM W m σ H Q := by
  obtain ⟨G, ε, i, ε2, rel, hm, hQ⟩ := h
  cases e : m ε with
  | none => simp only [e, blR] at hm; cases hm
  | some p =>
    obtain ⟨r, ε1⟩ := p
    simp only [e, blR] at hm
    split at hm
    · rename_i b hl
      cases hm
      refine ⟨G, ε, r, ε2, rel, e, fun v H' G' s k => ?_⟩
      rw [rdb_bl (look_rdb s.rel hl k.r0)]
      exact hQ H' G' s
    · cases hm
end
end Eng
end
section
set_option Elab.async false
set_option linter.all false
set_option maxRecDepth 100000
set_option maxHeartbeats 4000000
/-! EG: calls. -/
namespace Eng
open PySem PySem.Spec PyProof.Rows L2
section
variable (W : Wr)
def LA (as : List Arg) (vs : List V) (a : Addr) : Prop := ∃ (i : Nat) (d : Val), as[i]? = some (.lent d) ∧ vs[i]? = some (.ref a)
structure ArgsR (H G : Hp) (as : List Arg) (vs : List V) : Prop where
  len : as.length = vs.length
  val : ∀ (i : Nat) (d : Val), as[i]? = some (.val d) → ∃ v, vs[i]? = some v ∧ Rep W G d v
  lent : ∀ (i : Nat) (d : Val), as[i]? = some (.lent d) → ∃ a, vs[i]? = some (.ref a) ∧ OwnAt W H G d a
  apart : ∀ (i j : Nat) (a : Addr) (d e : Val), as[i]? = some (.lent d) → as[j]? = some (.lent e) → vs[i]? = some (.ref a) → vs[j]? = some (.ref a) → i = j
structure CSt (H G : Hp) (as : List Arg) (vs : List V) (r : RV) (ds : List Val) (v : V) (H' G' : Hp) : Prop where
  sub : Sub G' H'
  grow : Sub G G'
  keep : ∀ a o, H a = some o → ¬ LA as vs a → H' a = some o
  newG : ∀ a o, H a = some o → ¬ LA as vs a → G' a = G a
  there : ∀ a o, H a = some o → ∃ o', H' a = some o'
  len : ds.length = as.length
  outs : ∀ (i : Nat) (d d' : Val) (a : Addr), as[i]? = some (.lent d) → vs[i]? = some (.ref a) → ds[i]? = some d' → OwnAt W H' G' d' a
  res : match r with
    | .v d => Rep W G' d v
    | .o d => ∃ a, v = .ref a ∧ OwnAt W H' G' d a ∧ H a = none
    | .b _ => False
def spF (F : List Arg → Option (RV × List Val)) : Sp := fun vs H Q _ => ∃ G as r ds, Sub G H ∧ ArgsR W H G as vs ∧ F as = some (r, ds) ∧ ∀ v H' G', CSt W H G as vs r ds v H' G' → Q v H'
end
def isOwnS : Option Slot → Bool
  | some (.own _) => true
  | some (.lent _) => true
  | _ => false
theorem lentIx_cons {r : RV} {rs : List RV} {ε : Env} : lentIx (r :: rs) ε = (match r with | .b i => if isOwnS ε[i]? then i :: lentIx rs ε else lentIx rs ε | _ => lentIx rs ε) := by
  cases r with
  | v _ => rfl
  | o _ => rfl
  | b i =>
    simp only [lentIx]
    cases e : ε[i]? with
    | none => rfl
    | some s => cases s <;> rfl
theorem lentIx_kind {ε ε' : Env} (h : ∀ i : Nat, isOwnS ε[i]? = isOwnS ε'[i]?) : ∀ rs : List RV, lentIx rs ε = lentIx rs ε'
  | [] => rfl
  | r :: rs => by
    rw [lentIx_cons, lentIx_cons, lentIx_kind h rs]
    cases r with
    | b i => simp only [h i]
    | _ => rfl
theorem mem_lentIx {ε : Env} {j : Nat} : ∀ {rs : List RV}, j ∈ lentIx rs ε ↔ (∃ i : Nat, rs[i]? = some (.b j)) ∧ isOwnS ε[j]? = true
  | [] => by simp [lentIx]
  | r :: rs => by
    rw [lentIx_cons]
    have ih := @mem_lentIx ε j rs
    have step : (∃ i : Nat, (r :: rs)[i]? = some (.b j)) ↔ r = .b j ∨ ∃ i : Nat, rs[i]? = some (.b j) := by
      constructor
      · rintro ⟨i, h⟩
        cases i with
        | zero => exact .inl (by simpa using h)
        | succ i => exact .inr ⟨i, by simpa using h⟩
      · rintro (h | ⟨i, h⟩)
        · exact ⟨0, by simpa using h⟩
        · exact ⟨i + 1, by simpa using h⟩
    rw [step]
    cases r with
    | v _ => simpa using ih
    | o _ => simpa using ih
    | b i =>
      simp only
      split
      · rename_i ho
        rw [List.mem_cons, ih]
        constructor
        · rintro (h | h)
          · exact ⟨.inl (by rw [h]), by rw [h]; exact ho⟩
          · exact ⟨.inr h.1, h.2⟩
        · rintro ⟨h | h, k⟩
          · exact .inl (by injection h with h; exact h.symm)
          · exact .inr ⟨h, k⟩
      · rename_i ho
        rw [ih]
        constructor
        · rintro ⟨h, k⟩; exact ⟨.inr h, k⟩
        · rintro ⟨h | h, k⟩
          · injection h with h
            rw [h] at ho; exact absurd k ho
          · exact ⟨h, k⟩
theorem nodupB_cons {x : Nat} {xs : List Nat} (h : nodupB (x :: xs) = true) : x ∉ xs ∧ nodupB xs = true := by
  simp only [nodupB, Bool.and_eq_true, Bool.not_eq_true', List.contains_eq_mem, decide_eq_false_iff_not] at h
  exact h
def newS (s : Slot) (d : Val) : Slot := match s with
  | .own _ => .own d
  | .lent _ => .lent d
  | s => s
theorem back_cons {r : RV} {rs : List RV} {d : Val} {ds : List Val} {ε : Env} : back (r :: rs) (d :: ds) ε = (match r with | .b i => back rs ds (match ε[i]? with | some (.own _) => ε.set i (.own d) | some (.lent _) => ε.set i (.lent d) | _ => ε) | _ => back rs ds ε) := by
  cases r with
  | v _ => rfl
  | o _ => rfl
  | b i =>
    simp only [back]
    cases e : ε[i]? with
    | none => rfl
    | some s => cases s <;> rfl
theorem back_spec : ∀ (rs : List RV) (ds : List Val) (ε : Env), rs.length = ds.length → nodupB (lentIx rs ε) = true →
    (back rs ds ε).length = ε.length ∧ (∀ j : Nat, j ∉ lentIx rs ε → (back rs ds ε)[j]? = ε[j]?) ∧
    (∀ (i j : Nat) (s : Slot) (d : Val), rs[i]? = some (.b j) → ds[i]? = some d → ε[j]? = some s → isOwnS (some s) = true → (back rs ds ε)[j]? = some (newS s d))
  | [], [], ε, _, _ => ⟨rfl, fun _ _ => rfl, fun i _ _ _ h => by simp at h⟩
  | r :: rs, d :: ds, ε, hl, hn => by
    have hl' : rs.length = ds.length := by simpa using hl
    rw [back_cons]
    rw [lentIx_cons] at hn
    have plain : nodupB (lentIx rs ε) = true → (∀ j, r = .b j → isOwnS ε[j]? = false) → (back rs ds ε).length = ε.length ∧ (∀ j : Nat, j ∉ lentIx (r :: rs) ε → (back rs ds ε)[j]? = ε[j]?) ∧
        (∀ (i j : Nat) (s : Slot) (x : Val), (r :: rs)[i]? = some (.b j) → (d :: ds)[i]? = some x → ε[j]? = some s → isOwnS (some s) = true → (back rs ds ε)[j]? = some (newS s x)) := by
      intro hn hr
      obtain ⟨h1, h2, h3⟩ := back_spec rs ds ε hl' hn
      have el : lentIx (r :: rs) ε = lentIx rs ε := by
        rw [lentIx_cons]
        cases r with
        | b i => simp only [hr i rfl]; rfl
        | _ => rfl
      refine ⟨h1, fun j hj => h2 j (el ▸ hj), fun i j s x e1 e2 e3 e4 => ?_⟩
      cases i with
      | zero =>
        simp only [List.getElem?_cons_zero, Option.some.injEq] at e1
        have := hr j e1
        rw [e3, e4] at this; cases this
      | succ i => exact h3 i j s x (by simpa using e1) (by simpa using e2) e3 e4
    cases r with
    | v _ => exact plain hn (fun _ h => nomatch h)
    | o _ => exact plain hn (fun _ h => nomatch h)
    | b i =>
      simp only at hn ⊢
      by_cases ho : isOwnS ε[i]? = true
      · rw [if_pos ho] at hn
        obtain ⟨hni, hn⟩ := nodupB_cons hn
        obtain ⟨s0, es, eo⟩ : ∃ s0, ε[i]? = some s0 ∧ (match ε[i]? with | some (.own _) => ε.set i (.own d) | some (.lent _) => ε.set i (.lent d) | _ => ε) = ε.set i (newS s0 d) := by
          cases e : ε[i]? with
          | none => rw [e] at ho; cases ho
          | some s => cases s <;> first | (rw [e] at ho; cases ho; done) | exact ⟨_, rfl, rfl⟩
        rw [eo]
        have hlt : i < ε.length := (List.getElem?_eq_some_iff.mp es).1
        have ek : ∀ j : Nat, isOwnS (ε.set i (newS s0 d))[j]? = isOwnS ε[j]? := fun j => by
          rw [set_get]
          split
          · rename_i h
            rw [← h.1, es]
            rw [es] at ho
            cases s0 <;> first | rfl | (cases ho; done)
          · rfl
        have hn' : nodupB (lentIx rs (ε.set i (newS s0 d))) = true := by rw [lentIx_kind ek rs]; exact hn
        obtain ⟨h1, h2, h3⟩ := back_spec rs ds _ hl' hn'
        refine ⟨by rw [h1, List.length_set], fun j hj => ?_, fun k j s x e1 e2 e3 e4 => ?_⟩
        · rw [lentIx_cons] at hj
          simp only [if_pos ho, List.mem_cons, not_or] at hj
          rw [h2 j (by rw [lentIx_kind ek rs]; exact hj.2), set_get, if_neg]
          rintro ⟨z, _⟩
          exact hj.1 z.symm
        · cases k with
          | zero =>
            simp only [List.getElem?_cons_zero, Option.some.injEq, RV.b.injEq] at e1 e2
            subst e1 e2
            rw [es] at e3; cases e3
            rw [h2 i (by rw [lentIx_kind ek rs]; exact hni), set_get, if_pos ⟨rfl, hlt⟩]
          | succ k =>
            have e1 : rs[k]? = some (.b j) := by simpa using e1
            have hji : j ≠ i := fun z => hni (mem_lentIx.mpr ⟨⟨k, z ▸ e1⟩, ho⟩)
            refine h3 k j s x e1 (by simpa using e2) ?_ e4
            rw [set_get, if_neg]
            · exact e3
            · rintro ⟨z, _⟩; exact hji z.symm
      · rw [if_neg ho] at hn
        have hf : isOwnS ε[i]? = false := by simpa using ho
        have eo : (match ε[i]? with | some (.own _) => ε.set i (.own d) | some (.lent _) => ε.set i (.lent d) | _ => ε) = ε := by
          cases e : ε[i]? with
          | none => rfl
          | some s => cases s <;> first | rfl | (rw [e] at hf; cases hf; done)
        rw [eo]
        exact plain hn (fun j h => by injection h with h; rw [← h]; exact hf)
  | [], _ :: _, _, h, _ => by simp at h
  | _ :: _, [], _, h, _ => by simp at h

section
variable {W : Wr} {ε ε' : Env} {σ : L2.St} {H G H0 : Hp}
theorem argsOf_spec : ∀ {rs : List RV} {as : List Arg}, argsOf rs ε = some as → as.length = rs.length ∧ ∀ (i : Nat) (r : RV), rs[i]? = some r → ∃ a, as[i]? = some a ∧ argOf r ε = some a
  | [], as, h => by
    simp only [argsOf] at h; cases h
    exact ⟨rfl, fun i r e => by simp at e⟩
  | r :: rs, as, h => by
    simp only [argsOf] at h
    split at h
    · rename_i a ea
      split at h
      · rename_i as' es
        cases h
        obtain ⟨h1, h2⟩ := argsOf_spec es
        refine ⟨by simp [h1], fun i q e => ?_⟩
        cases i with
        | zero =>
          simp only [List.getElem?_cons_zero, Option.some.injEq] at e
          subst e
          exact ⟨a, rfl, ea⟩
        | succ i =>
          obtain ⟨x, k1, k2⟩ := h2 i q (by simpa using e)
          exact ⟨x, by simpa using k1, k2⟩
      · cases h
    · cases h
theorem RRs.length : ∀ {rs : List RV} {vs : List V}, RRs W H0 ε σ H G rs vs → rs.length = vs.length
  | _, _, .nil => rfl
  | _, _, .cons _ _ r => by simp [RRs.length r]
theorem RRs.get : ∀ {rs : List RV} {vs : List V} {i : Nat} {r : RV}, RRs W H0 ε σ H G rs vs → rs[i]? = some r → ∃ v, vs[i]? = some v ∧ RR W H0 ε σ H G r v
  | _, _, _, _, .nil, e => by simp at e
  | _, _, 0, _, .cons q _ _, e => by simp at e; subst e; exact ⟨_, rfl, q⟩
  | _, _, i + 1, _, .cons _ _ r, e => by
    obtain ⟨v, h1, h2⟩ := RRs.get (i := i) r (by simpa using e)
    exact ⟨v, by simpa using h1, h2⟩
theorem RRs.apart : ∀ {rs : List RV} {vs : List V} {i j : Nat} {d e : Val} {v : V}, RRs W H0 ε σ H G rs vs → rs[i]? = some (.o d) → rs[j]? = some (.o e) → vs[i]? = some v → vs[j]? = some v → i = j
  | _, _, _, _, _, _, _, .nil, h, _, _, _ => by simp at h
  | _, _, 0, 0, _, _, _, .cons _ _ _, _, _, _, _ => rfl
  | _, _, 0, j + 1, d, e, v, .cons _ n _, h1, h2, h3, h4 => by
    simp only [List.getElem?_cons_zero, Option.some.injEq] at h1 h3
    subst h3
    exact absurd (by simpa using h4) (n d h1 j e (by simpa using h2))
  | _, _, i + 1, 0, d, e, v, .cons _ n _, h1, h2, h3, h4 => by
    simp only [List.getElem?_cons_zero, Option.some.injEq] at h2 h4
    subst h4
    exact absurd (by simpa using h3) (n e h2 i d (by simpa using h1))
  | _, _, i + 1, j + 1, _, _, _, .cons _ _ r, h1, h2, h3, h4 => by
    rw [RRs.apart r (i := i) (j := j) (by simpa using h1) (by simpa using h2) (by simpa using h3) (by simpa using h4)]
/-- where a lent argument comes from -/
theorem argOf_lent {r : RV} {d : Val} (h : argOf r ε = some (.lent d)) : r = .o d ∨ ∃ j, r = .b j ∧ (ε[j]? = some (.own d) ∨ ε[j]? = some (.lent d)) := by
  cases r with
  | v x => simp only [argOf] at h; cases h
  | o x => simp only [argOf] at h; cases h; exact .inl rfl
  | b j =>
    simp only [argOf] at h
    split at h
    · cases h
    · cases h; exact .inr ⟨j, rfl, .inl (by assumption)⟩
    · cases h; exact .inr ⟨j, rfl, .inr (by assumption)⟩
    · cases h
theorem argOf_val {r : RV} {d : Val} (h : argOf r ε = some (.val d)) : r = .v d ∨ ∃ j, r = .b j ∧ ε[j]? = some (.val d) := by
  cases r with
  | v x => simp only [argOf] at h; cases h; exact .inl rfl
  | o x => simp only [argOf] at h; cases h
  | b j =>
    simp only [argOf] at h
    split at h
    · cases h; exact .inr ⟨j, rfl, by assumption⟩
    · cases h
    · cases h
    · cases h
theorem nodup_ix2 {rs : List RV} : ∀ {i j k : Nat}, nodupB (lentIx rs ε) = true → rs[i]? = some (.b k) → rs[j]? = some (.b k) → isOwnS ε[k]? = true → i = j := by
  induction rs with
  | nil => intro i j k _ h; simp at h
  | cons r rs ih =>
    intro i j k hn h1 h2 ho
    rw [lentIx_cons] at hn
    cases i with
    | zero =>
      cases j with
      | zero => rfl
      | succ j =>
        simp only [List.getElem?_cons_zero, Option.some.injEq] at h1
        subst h1
        simp only [if_pos ho] at hn
        exact absurd (mem_lentIx.mpr ⟨⟨j, by simpa using h2⟩, ho⟩) (nodupB_cons hn).1
    | succ i =>
      cases j with
      | zero =>
        simp only [List.getElem?_cons_zero, Option.some.injEq] at h2
        subst h2
        simp only [if_pos ho] at hn
        exact absurd (mem_lentIx.mpr ⟨⟨i, by simpa using h1⟩, ho⟩) (nodupB_cons hn).1
      | succ j =>
        have hn' : nodupB (lentIx rs ε) = true := by
          cases r with
          | b x =>
            simp only at hn
            split at hn
            · exact (nodupB_cons hn).2
            · exact hn
          | _ => exact hn
        rw [ih (i := i) (j := j) hn' (by simpa using h1) (by simpa using h2) ho]
theorem args_ok (rel : Rel W ε σ H G) {rs : List RV} {vs : List V} {as : List Arg} (k : RRs W H0 ε σ H G rs vs) (ha : argsOf rs ε = some as) (hn : nodupB (lentIx rs ε) = true) : ArgsR W H G as vs := by
  obtain ⟨hl, hs⟩ := argsOf_spec ha
  have src : ∀ {i : Nat} {a : Arg}, as[i]? = some a → ∃ r, rs[i]? = some r ∧ argOf r ε = some a := fun {i a} e => by
    have hi : i < rs.length := by rw [← hl]; exact (List.getElem?_eq_some_iff.mp e).1
    obtain ⟨x, h1, h2⟩ := hs i rs[i] (by simp [hi])
    rw [e] at h1; cases h1
    exact ⟨_, by simp [hi], h2⟩
  refine ⟨hl.trans k.length, fun i d e => ?_, fun i d e => ?_, fun i j a d e h1 h2 h3 h4 => ?_⟩
  · obtain ⟨r, h1, h2⟩ := src e
    obtain ⟨v, h3, h4⟩ := k.get h1
    refine ⟨v, h3, ?_⟩
    rcases argOf_val h2 with rfl | ⟨j, rfl, h5⟩
    · exact h4
    · obtain ⟨v', h6, h7⟩ := rel.val j d h5
      rw [(show σ[j]? = some (some v) from h4)] at h6; cases h6
      exact h7
  · obtain ⟨r, h1, h2⟩ := src e
    obtain ⟨v, h3, h4⟩ := k.get h1
    rcases argOf_lent h2 with rfl | ⟨j, rfl, h5⟩
    · obtain ⟨a, rfl, h6, _⟩ := h4
      exact ⟨a, h3, h6⟩
    · obtain ⟨a, h6, h7⟩ := rel.own j d h5
      rw [(show σ[j]? = some (some v) from h4)] at h6; cases h6
      exact ⟨a, h3, h7⟩
  · obtain ⟨r1, k1, k2⟩ := src h1
    obtain ⟨r2, k3, k4⟩ := src h2
    rcases argOf_lent k2 with rfl | ⟨x, rfl, k5⟩
    · rcases argOf_lent k4 with rfl | ⟨y, rfl, k6⟩
      · exact k.apart k1 k3 h3 h4
      · obtain ⟨v, q1, q2⟩ := k.get k1
        rw [h3] at q1; cases q1
        obtain ⟨b, e1, _, n, _⟩ := q2
        cases e1
        obtain ⟨v, q3, q4⟩ := k.get k3
        rw [h4] at q3; cases q3
        exact absurd ⟨y, ⟨e, k6⟩, q4⟩ n
    · rcases argOf_lent k4 with rfl | ⟨y, rfl, k6⟩
      · obtain ⟨v, q1, q2⟩ := k.get k3
        rw [h4] at q1; cases q1
        obtain ⟨b, e1, _, n, _⟩ := q2
        cases e1
        obtain ⟨v, q3, q4⟩ := k.get k1
        rw [h3] at q3; cases q3
        exact absurd ⟨x, ⟨d, k5⟩, q4⟩ n
      · obtain ⟨v, q1, q2⟩ := k.get k1
        rw [h3] at q1; cases q1
        obtain ⟨v, q3, q4⟩ := k.get k3
        rw [h4] at q3; cases q3
        have exy : x = y := rel.apart x y a ⟨d, k5⟩ ⟨e, k6⟩ q2 q4
        subst exy
        exact nodup_ix2 hn k1 k3 (by rcases k5 with k5 | k5 <;> rw [k5] <;> rfl)
/-- behind a call -/
theorem call_step {ε0 : Env} {G0 : Hp} (s0 : Stp W ε0 σ H0 G0 ε H G) {rs : List RV} {vs : List V} {as : List Arg} (k : RRs W H0 ε σ H G rs vs) (ha : argsOf rs ε = some as) (hn : nodupB (lentIx rs ε) = true)
    {r : RV} {ds : List Val} {v : V} {H' G' : Hp} (c : CSt W H G as vs r ds v H' G') : Stp W ε0 σ H0 G0 (back rs ds ε) H' G' ∧ RR W H0 (back rs ds ε) σ H' G' r v := by
  have rel := s0.rel
  obtain ⟨hl, hs⟩ := argsOf_spec ha
  have A := args_ok rel k ha hn
  obtain ⟨b1, b2, b3⟩ := back_spec rs ds ε (by rw [c.len, hl]) hn
  -- the slots behind
  have slot : ∀ (j : Nat) (s : Slot), ε[j]? = some s → (j ∉ lentIx rs ε ∧ (back rs ds ε)[j]? = some s) ∨ ∃ (i : Nat) (d : Val), rs[i]? = some (.b j) ∧ ds[i]? = some d ∧ isOwnS (some s) = true ∧ (back rs ds ε)[j]? = some (newS s d) := fun j s e => by
    by_cases hj : j ∈ lentIx rs ε
    · obtain ⟨⟨i, hi⟩, ho⟩ := mem_lentIx.mp hj
      have hid : i < ds.length := by rw [c.len, hl]; exact (List.getElem?_eq_some_iff.mp hi).1
      rw [e] at ho
      exact .inr ⟨i, ds[i], hi, by simp [hid], ho, b3 i j s _ hi (by simp [hid]) e ho⟩
    · exact .inl ⟨hj, by rw [b2 j hj]; exact e⟩
  have slotB : ∀ (j : Nat) (t : Slot), (back rs ds ε)[j]? = some t → ∃ s, ε[j]? = some s ∧ ((j ∉ lentIx rs ε ∧ t = s) ∨ ∃ (i : Nat) (d : Val), rs[i]? = some (.b j) ∧ ds[i]? = some d ∧ isOwnS (some s) = true ∧ t = newS s d) := fun j t e => by
    have hj : j < ε.length := by rw [← b1]; exact (List.getElem?_eq_some_iff.mp e).1
    refine ⟨ε[j], by simp [hj], ?_⟩
    rcases slot j ε[j] (by simp [hj]) with ⟨h1, h2⟩ | ⟨i, d, h1, h2, h3, h4⟩
    · rw [e] at h2; cases h2; exact .inl ⟨h1, rfl⟩
    · rw [e] at h4; cases h4; exact .inr ⟨i, d, h1, h2, h3, rfl⟩
  have ownB : ∀ j : Nat, OwnS (back rs ds ε) j → OwnS ε j := fun j ⟨d, h⟩ => by
    rcases h with h | h
    · obtain ⟨s, h1, h2⟩ := slotB j _ h
      rcases h2 with ⟨_, z⟩ | ⟨i, d', _, _, ho, z⟩
      · exact ⟨d, .inl (z ▸ h1)⟩
      · cases s with
        | own x => exact ⟨x, .inl h1⟩
        | lent x => exact ⟨x, .inr h1⟩
        | _ => cases ho
    · obtain ⟨s, h1, h2⟩ := slotB j _ h
      rcases h2 with ⟨_, z⟩ | ⟨i, d', _, _, ho, z⟩
      · exact ⟨d, .inr (z ▸ h1)⟩
      · cases s with
        | own x => exact ⟨x, .inl h1⟩
        | lent x => exact ⟨x, .inr h1⟩
        | _ => cases ho
  have oaB : ∀ a, OA (back rs ds ε) σ a → OA ε σ a := fun a ⟨j, h1, h2⟩ => ⟨j, ownB j h1, h2⟩
  -- an own slot that is not lent is no lent address
  have notLA : ∀ {j : Nat} {d : Val} {a : Addr}, (ε[j]? = some (.own d) ∨ ε[j]? = some (.lent d)) → σ[j]? = some (some (.ref a)) → j ∉ lentIx rs ε → ¬ LA as vs a := fun {j d a} h1 h2 h3 ⟨i, x, h4, h5⟩ => by
    have hi : i < rs.length := by rw [← hl]; exact (List.getElem?_eq_some_iff.mp h4).1
    obtain ⟨y, q1, q2⟩ := hs i rs[i] (by simp [hi])
    rw [h4] at q1; cases q1
    have er : rs[i]? = some rs[i] := by simp [hi]
    generalize rs[i] = r0 at q2 er
    obtain ⟨v0, q3, q4⟩ := k.get er
    rw [h5] at q3; cases q3
    rcases argOf_lent q2 with rfl | ⟨z, rfl, q5⟩
    · obtain ⟨b, e1, _, n, _⟩ := q4
      cases e1
      exact n ⟨j, ⟨d, h1⟩, h2⟩
    · have : z = j := rel.apart z j a ⟨x, q5⟩ ⟨d, h1⟩ q4 h2
      subst this
      exact h3 (mem_lentIx.mpr ⟨⟨i, er⟩, by rcases q5 with q5 | q5 <;> rw [q5] <;> rfl⟩)
  have nla : ∀ {a : Addr} {o : HO}, H a = some o → ¬ OA ε σ a → H0 a = some o → ¬ LA as vs a := fun {a o} _ h2 h3 ⟨i, x, h4, h5⟩ => by
    have hi : i < rs.length := by rw [← hl]; exact (List.getElem?_eq_some_iff.mp h4).1
    obtain ⟨y, q1, q2⟩ := hs i rs[i] (by simp [hi])
    rw [h4] at q1; cases q1
    have er : rs[i]? = some rs[i] := by simp [hi]
    generalize rs[i] = r0 at q2 er
    obtain ⟨v0, q3, q4⟩ := k.get er
    rw [h5] at q3; cases q3
    rcases argOf_lent q2 with rfl | ⟨z, rfl, q5⟩
    · obtain ⟨b, e1, _, _, f⟩ := q4
      cases e1
      rw [f] at h3; cases h3
    · exact h2 ⟨z, ⟨x, q5⟩, q4⟩
  have ownC : ∀ (j : Nat) (t : Slot) (d : Val), (back rs ds ε)[j]? = some t → (t = .own d ∨ t = .lent d) → ∃ a, σ[j]? = some (some (.ref a)) ∧ OwnAt W H' G' d a := fun j t d e et => by
    obtain ⟨s, h1, h2⟩ := slotB j t e
    rcases h2 with ⟨hj, z⟩ | ⟨i, d', q1, q2, ho, z⟩
    · subst z
      have h1' : ε[j]? = some (.own d) ∨ ε[j]? = some (.lent d) := by rcases et with et | et <;> subst et <;> simp [h1]
      obtain ⟨a, q1, q2⟩ := rel.own j d h1'
      have nl := notLA h1' q1 hj
      obtain ⟨u, hu⟩ := q2.there
      exact ⟨a, q1, q2.keep c.grow (fun u e => c.keep a u e nl) (c.newG a u hu nl)⟩
    · obtain ⟨x, hx⟩ : ∃ x, ε[j]? = some (.own x) ∨ ε[j]? = some (.lent x) := by
        cases s with
        | own x => exact ⟨x, .inl h1⟩
        | lent x => exact ⟨x, .inr h1⟩
        | _ => cases ho
      obtain ⟨y, k1, k2⟩ := hs i _ q1
      have ey : y = .lent x := by
        unfold argOf at k2
        rcases hx with hx | hx <;> simp only [hx] at k2 <;> (cases k2; rfl)
      subst ey
      obtain ⟨v0, k3, k4⟩ := k.get q1
      obtain ⟨a, k5, k6⟩ := rel.own j x hx
      have k4 : σ[j]? = some (some v0) := k4
      rw [k5] at k4; cases k4
      have ed : d = d' := by
        cases s with
        | own _ => rcases et with et | et <;> (subst et; simp only [newS] at z; cases z <;> rfl)
        | lent _ => rcases et with et | et <;> (subst et; simp only [newS] at z; cases z <;> rfl)
        | _ => cases ho
      subst ed
      exact ⟨a, k5, c.outs i x d a k1 k3 q2⟩
  refine ⟨⟨⟨b1.trans rel.len, c.sub, fun j d e => ?_, fun j d e => ?_, fun i j a h1 h2 => rel.apart i j a (ownB i h1) (ownB j h2)⟩, s0.grow.trans c.grow, fun a o e n => ?_, fun a o e n => ?_, fun a z => s0.oa a (oaB a z), fun j => ?_, fun j e => ?_, fun a o e => ?_⟩, ?_⟩
  · obtain ⟨s, h1, h2⟩ := slotB j _ e
    rcases h2 with ⟨_, z⟩ | ⟨i, d', _, _, ho, z⟩
    · subst z
      obtain ⟨v, q1, q2⟩ := rel.val j d h1
      exact ⟨v, q1, q2.mono c.grow⟩
    · cases s with
      | own _ => cases z
      | lent _ => cases z
      | _ => cases ho
  · rcases e with e | e
    · exact ownC j _ d e (.inl rfl)
    · exact ownC j _ d e (.inr rfl)
  · have e1 := s0.keep a o e n
    have n1 : ¬ OA ε σ a := fun z => n (s0.oa a z)
    exact c.keep a o e1 (nla e1 n1 e)
  · have e1 := s0.keep a o e n
    have n1 : ¬ OA ε σ a := fun z => n (s0.oa a z)
    exact (c.newG a o e1 (nla e1 n1 e)).trans (s0.newG a o e n)
  · refine (s0.lent j).trans ⟨fun ⟨d, e⟩ => ?_, fun ⟨d, e⟩ => ?_⟩
    · rcases slot j _ e with ⟨_, h⟩ | ⟨i, d', _, _, _, h⟩
      · exact ⟨d, h⟩
      · exact ⟨d', h⟩
    · obtain ⟨s, h1, h2⟩ := slotB j _ e
      rcases h2 with ⟨_, z⟩ | ⟨i, d', _, _, ho, z⟩
      · exact ⟨d, z ▸ h1⟩
      · cases s with
        | own _ => cases z
        | lent x => exact ⟨x, h1⟩
        | _ => cases ho
  · have e1 := s0.un j e
    rw [b2 j]
    · exact e1
    · intro hj
      obtain ⟨_, ho⟩ := mem_lentIx.mp hj
      rw [e1] at ho; cases ho
  · obtain ⟨o1, e1⟩ := s0.there a o e
    exact c.there a o1 e1
  · have res := c.res
    cases r with
    | v d => exact res
    | o d =>
      obtain ⟨a, e, o, n⟩ := res
      refine ⟨a, e, o, fun z => ?_, s0.fresh n⟩
      obtain ⟨j, ⟨x, h1⟩, h2⟩ := oaB a z
      obtain ⟨b, h3, h4⟩ := rel.own j x h1
      rw [h2] at h3; cases h3
      obtain ⟨u, hu⟩ := h4.there
      rw [hu] at n; cases n
    | b i => exact res.elim
end
end Eng
end
section
set_option Elab.async false
set_option linter.all false
set_option maxRecDepth 100000
set_option maxHeartbeats 4000000
/-! EI: enumerate over a tuple. -/
namespace Eng
open PySem PySem.Spec PyProof.Rows L2
theorem enum1_new {v : Value} {o : Obj} {H : Heap → Prop} (B : Begins v o H) :
    Meets (Builtin.«enumerate.__new__» ⟨[.type "enumerate", v], []⟩) (fun _ R s => H s.heap ∧
      R (.ok (.ret (.ref (s.heap.push o).objs.size))) { s with heap := (s.heap.push o).push { cls := .type "enumerate", data := .fields #[.none, .bool false, .ref s.heap.objs.size, rawInt 0, .none, .none] } }) :=
  .of_wp fun prog w A R s h => by
    obtain ⟨hp, g, d, tk, os⟩ := s
    obtain ⟨h1, h⟩ := h
    have hsub := sub_enumerate
    have it1 : ∀ {A' : Around} {E : Value → Shared → Prop} {Q : Value → Shared → Prop}, Q (.ref hp.objs.size) ⟨hp.push o, g, d, tk, os⟩ → wpAny (model prog w) A' (pyIter v) Q E ⟨hp, g, d, tk, os⟩ :=
      fun q => B.iter prog w _ _ ⟨hp, g, d, tk, os⟩ _ h1 q
    wp_walk using it1
    refine wpAny_stack_any fun _ => wpAny_pure ?_
    split
    · rename_i k _ _ _ _ _
      cases (k == Value.type "enumerate") <;> (wp_walk using it1; exact ⟨_, rfl, h⟩)
    · (wp_walk using it1; exact ⟨_, rfl, h⟩)
section
variable {prog : Program} {w : World} {A : Around} {E : Value → Shared → Prop} {s : Shared}
theorem enum1_call {v : Value} {o : Obj} {H : Heap → Prop} {Q : Value → Shared → Prop} (B : Begins v o H) (h1 : H s.heap)
    (h : ∀ h', IsEnum h' (s.heap.objs.size + 1) s.heap.objs.size 0 .none → h'.get? s.heap.objs.size = some o → (∀ b u, s.heap.get? b = some u → h'.get? b = some u) → Q (.ref (s.heap.objs.size + 1)) { s with heap := h' }) :
    wpAny (model prog w) A (call (.type "enumerate") [v]) Q E s := by
  refine callType_new F.called_enumerate (by decide) (F.typeCall_enumerate_1 _) (F.newCall_enumerate_1 _) (fun obj => F.args_object_init_2 obj _) F.entry_enumerate_new (enum1_new B) ⟨h1, ?_⟩
  have hz : (s.heap.push o).objs.size = s.heap.objs.size + 1 := Heap.size_push ..
  show _ ∧ _
  rw [hz]
  have he : IsEnum ((s.heap.push o).push { cls := .type "enumerate", data := .fields #[.none, .bool false, .ref s.heap.objs.size, rawInt 0, .none, .none] }) (s.heap.objs.size + 1) s.heap.objs.size 0 .none := by
    have q := Heap.get?_push_size (s.heap.push o) (o := { cls := .type "enumerate", data := .fields #[.none, .bool false, .ref s.heap.objs.size, rawInt 0, .none, .none] }) rfl
    rw [hz] at q
    exact q
  exact ⟨⟨_, he, rfl⟩, h _ he (Heap.get?_push_of_some _ (Heap.get?_push_size _ B.free)) fun b u x => Heap.get?_push_of_some _ (Heap.get?_push_of_some _ x)⟩
end
/-- the tuple at a, each item in a new pair -/
def IteT (K : PySem.W.Frag) (a : Addr) : L2.It where
  go := fun i H => ∃ (xs : List V) (x : V), SqT K H a xs ∧ xs[i]? = some x
  yld := fun i H v H' => ∃ T x, v = .ref T ∧ H T = none ∧ H' = upd H T (.tup [.int (i : Nat), x]) ∧ ∀ xs, SqT K H a xs → xs[i]? = some x
  stop := fun i H => ∃ xs : List V, SqT K H a xs ∧ xs.length ≤ i
theorem turn_enumT {P : Program} {w : World} {K : PySem.W.Frag} {elts : List Expr} {kk : Nat} {tpos : Pos} (a e it : Addr) (hai : a ≠ it) (hae : a ≠ e) :
    Turn P w K (.Tuple elts kk tpos) (IteT K a) [e, it] e (fun i h => (∃ old, IsEnum h e it ((i : Nat) : Int) old) ∧ h.IsTupleIter it a i ∧ e ≠ it) where
  mem := by simp
  obj := fun i h ⟨⟨old, he⟩, ⟨o, ho, hc, hd⟩, _⟩ b hb => by
    rcases (show b = e ∨ b = it by simpa using hb) with z | z <;> rw [z]
    · exact ⟨_, he, fun v q => nomatch q⟩
    · exact ⟨o, ho, fun v q => by rw [hd] at q; cases q⟩
  keep := fun i h h' ⟨⟨old, he⟩, hi, hne⟩ k => ⟨⟨old, k e (by simp) _ he⟩, hi.at fun o q => k it (by simp) o q, hne⟩
  item := by
    intro X hP hw hK hc i pins s σ H E I hf ⟨⟨old, he⟩, hit, hne⟩ ⟨xs, x, hq, hx⟩
    subst hP hw hK
    obtain ⟨its, rv, p, hz⟩ := I.tuple hq
    obtain ⟨u, hu, ru⟩ := rv.get hx
    have hel : e < s.heap.objs.size := Heap.lt_size he
    have hil : it < s.heap.objs.size := by
      obtain ⟨_, q, _⟩ := hit
      exact Heap.lt_size q
    have hlt : i < its.toArray.size := by
      rw [List.size_toArray]
      exact (List.getElem?_eq_some_iff.mp hu).1
    have D := Draws.tuple (prog := X.prog) (w := X.w) (A := X.A.in1) (I.ok.hd hc) it a hai its.toArray
    refine wpAny_pyNext_enum_itemD D he ⟨hit, show s.heap.IsTuple a its.toArray from p⟩ hlt hne (by simp [hne, Ne.symm hae]) fun y h' tk hy ho hst hT hsz hk => ?_
    have ey : y = u := by
      have hy' : its[i]? = some y := by simpa using hy
      rw [hu] at hy'
      exact (Option.some.inj hy').symm
    subst ey
    refine ⟨_, rfl, wpAny_letOwnedTupleGo_enum (s := { s with heap := h', toks := tk + 1 }) ho fun h'' he' sb => ?_⟩
    have hT2 := (sb.2 _ (Nat.ne_of_gt hel)).trans hT
    have new : ObjOk X.prog X.w (upd H s.heap.objs.size (.tup [.int (i : Nat), x])) h'' s.heap.objs.size (.tup [.int (i : Nat), x]) :=
      ⟨by show 2 ≤ sizeLine; decide, [.int i tk, y], .cons ⟨_, rfl⟩ (.cons ru .nil), ⟨_, hT2, rfl, _, rfl⟩⟩
    have I1 : Inv X pins σ (upd H s.heap.objs.size (.tup [.int (i : Nat), x])) { s with heap := h'', toks := tk + 1 } :=
      I.turnedNew (ch := [e, it]) (fun b ob hb q => (sb.2 b fun z => hb (by simp [z])).trans (hk b ob (fun z => hb (by simp [z])) (fun z => hb (by simp [z])) q)) hf (Nat.le_refl _) new
    refine ⟨.ref s.heap.objs.size, _, I1, rfl, ⟨_, x, rfl, I.hok.fresh (Nat.le_refl _), rfl, fun ys hy => (I.tuple_inj hy hq) ▸ hx⟩, ⟨⟨y, ?_⟩, hst.1.at fun o q => (sb.2 it (Ne.symm hne)).trans q, hne⟩, fun b hb => ?_⟩
    · rw [show ((i + 1 : Nat) : Int) = (i : Int) + 1 by omega]
      exact he'
    · have hb' : b < s.heap.objs.size := by
        rcases (show b = e ∨ b = it by simpa using hb) with z | z <;> (rw [z]; assumption)
      rw [upd_ne (Nat.ne_of_lt hb')]
      exact (hf b hb).1
  done := by
    intro X hP hw hK hc i pins s σ H E I hf ⟨⟨old, he⟩, hit, hne⟩ ⟨xs, hq, hx⟩
    subst hP hw hK
    obtain ⟨its, rv, p, hz⟩ := I.tuple hq
    obtain ⟨f0, f1, f2, f3, f4, f5⟩ := hf it (by simp)
    have hl := rv.length
    unfold pyNext
    refine wpAny_bind (wpAny_attempt (wpAny_callSpecial?_slot (name := Str.ofString "__next__") ⟨_, he, rfl⟩ F.slot_enumerate_next
      (wpAny_call_entry F.slot_enumerate_next ⟨_, he, rfl⟩ F.entry_enumerate_next ?_ (F.args_enumerate_next_1 _))))
    show wpAny _ _ (field (.ref e) 2 >>= _) _ _ _
    refine wpAny_bind (wpAny_field he rfl (x := .ref it) rfl ?_)
    refine wpAny_bind (wpAny_nextOf_tuple_end (show X.A.in1.handled = none from I.ok.hd hc) hit (show s.heap.IsTuple a its.toArray from p) (by simp; omega) fun h' x he' hx' => ?_)
    obtain ⟨o, ho, hc'⟩ := hx'
    refine wpAny_bind (wpAny_isInstance (T := "StopIteration") (b := true) ⟨o, ho, hc'⟩ isSubtype_stop ?_)
    exact wpAny_pure ⟨rfl, I.turned (t' := s.toks) (fun b o hb q => he' b o hb q) f0 f1 f3 f4 f5⟩
  self := fun A i s Q E ⟨⟨_, he⟩, _⟩ h => wpAny_pyIter_enum he h
def iEnumA (K : PySem.W.Frag) (ta : TA) : TI := fun σ H R => ta σ H fun vs H1 => ∃ a xs, vs = [.ref a] ∧ ((SqL K H1 a xs ∧ R (Ite K a) H1) ∨ (SqT K H1 a xs ∧ R (IteT K a) H1))
theorem pi_enumA {X : Cx} {e : Expr} {ta : TA} {p pos tpos : Pos} {elts : List Expr} {kk : Nat} (hg : Gl X "enumerate") (hm : X.mg "enumerate" = none) (ha : PA X [e] ta) (hs : starEach [e] X.env = (false, eval e X.env) :: starEach [] X.env) :
    PI X (.Tuple elts kk tpos) (.Call (.Name "enumerate" p) [e] [] pos) (iEnumA X.K ta) := by
  refine ⟨fun pins s σ H R I h => Call_ (ld_blt I hg hm boot_enumerate (PyProof.Rows.callWith_type1 (thn (ha.run pos pins s σ H _ I h) fun us s1 ⟨vs, H1, I1, r1, q1⟩ => ?_) hs rfl))⟩
  obtain ⟨a, xs, ex, q1⟩ := q1
  subst ex
  cases r1 with
  | cons r rr =>
    cases rr
    cases r
    have fin : ∀ {o : Obj} {hp : Heap → Prop} {J : L2.It} {tn : Nat → Heap → Prop}, Begins (.ref a) o hp → hp s1.heap → R J H1 →
        (∀ h', IsEnum h' (s1.heap.objs.size + 1) s1.heap.objs.size 0 .none → h'.get? s1.heap.objs.size = some o → tn 0 h') → Turn X.prog X.w X.K (.Tuple elts kk tpos) J [s1.heap.objs.size + 1, s1.heap.objs.size] (s1.heap.objs.size + 1) tn →
        wpAny (model X.prog X.w) X.A (call (.type "enumerate") [.ref a]) (fun v s2 => wpAny (model X.prog X.w) X.A (pyIter v) (PIE X pins σ (.Tuple elts kk tpos) R) X.xe s2) X.xe s1 := by
      intro o hp J tn B hh q ht T
      refine enum1_call B hh fun h' he hit hk => wpAny_pyIter_enum he ?_
      refine ⟨s1.heap.objs.size + 1, _, _, _, H1, rfl, I1.kept (t' := s1.toks) hk, T, ht h' he hit, fun b hb => ?_, q⟩
      have hle : s1.heap.objs.size ≤ b := by
        rcases (show b = s1.heap.objs.size + 1 ∨ b = s1.heap.objs.size by simpa using hb) with z | z <;> rw [z]
        · exact Nat.le_add_right _ _
        · exact Nat.le_refl _
      exact I1.fpOk hle (I1.hok.fresh hle)
    rcases q1 with ⟨hq, q⟩ | ⟨hq, q⟩
    · obtain ⟨its, rv, pl, hz⟩ := I1.list hq
      exact fin (begins_list a its.toArray) pl.isList q (fun h' he hit => ⟨⟨.none, he⟩, ⟨_, hit, rfl, rfl⟩, Nat.succ_ne_self _⟩) (turn_enum a _ _)
    · obtain ⟨its, rv, pl, hz⟩ := I1.tuple hq
      have hlt : a < s1.heap.objs.size := by
        obtain ⟨o, ho, _⟩ := id pl
        exact Heap.lt_size ho
      exact fin (begins_tuple a its.toArray) (show s1.heap.IsTuple a its.toArray from pl) q (fun h' he hit => ⟨⟨.none, he⟩, ⟨_, hit, rfl, rfl⟩, Nat.succ_ne_self _⟩) (turn_enumT a _ _ (Nat.ne_of_lt hlt) (Nat.ne_of_lt (Nat.lt_succ_of_lt hlt)))
end Eng
end
section
set_option Elab.async false
set_option linter.all false
set_option maxRecDepth 100000
set_option maxHeartbeats 4000000
/-! EJ: what is walked; comprehensions. -/
namespace Eng
open PySem PySem.Spec PyProof.Rows L2 RZ
structure WJ (W : Wr) (J : L2.It) (A : List Addr) (al : Hp → Hp → Prop) (xs : List Val) : Prop where
  kept : ∀ H G H' G', al H G → Sub G G' → Sub G' H' → (∀ a ∈ A, ∀ o, H a = some o → H' a = some o) → al H' G'
  go : ∀ i H G, al H G → Sub G H → i < xs.length → J.go i H
  yld : ∀ i H G v H' x, al H G → Sub G H → J.yld i H v H' → xs[i]? = some x → ∃ G', ASt H G H' G' ∧ Rep W G' x v
  stop : ∀ i H G, al H G → Sub G H → xs.length ≤ i → J.stop i H
/-- an iterator that walks xs from here on -/
def Wk (W : Wr) (ε : Env) (σ : L2.St) (H G : Hp) (J : L2.It) (xs : List Val) : Prop := ∃ A al, al H G ∧ WJ W J A al xs ∧ ∀ a ∈ A, (∃ o, H a = some o) ∧ ¬ OA ε σ a
def tIt (W : Wr) (m : Env → Option (RV × List Val × Env)) : TI := fun σ H R => ∃ G ε r xs ε', Rel W ε σ H G ∧ m ε = some (r, xs, ε') ∧ ∀ J H' G', Stp W ε σ H G ε' H' G' → Wk W (shut r ε') σ H' G' J xs → R J H'

section
variable {W : Wr} {ε : Env} {σ : L2.St} {H G : Hp} {xs : List Val}
theorem wk_tup {K : PySem.W.Frag} (hK : K = W.K) {a : Addr} {vs : List V} (q : SqT W.K G a vs) (r : Reps W G xs vs) : Wk W ε σ H G (Itt K a) xs := by
  subst hK
  refine ⟨[], fun H G => SqT W.K G a vs ∧ Reps W G xs vs, ⟨q, r⟩, ⟨fun H G H' G' ⟨h1, h2⟩ s _ _ => ⟨sqt_mono s h1, h2.mono s⟩, fun i H G ⟨h1, h2⟩ s hi => ?_, fun i H G v H' x ⟨h1, h2⟩ s hy hx => ?_, fun i H G ⟨h1, h2⟩ s hi => ?_⟩, fun _ h => nomatch h⟩
  · have hv : i < vs.length := by rw [← h2.length]; exact hi
    exact ⟨vs, vs[i], sqt_mono s h1, by simp [hv]⟩
  · obtain ⟨rfl, hy⟩ := hy
    obtain ⟨u, h3, h4⟩ := h2.get hx
    have := hy vs (sqt_mono s h1)
    rw [h3] at this; cases this
    exact ⟨G, .refl s, h4⟩
  · exact ⟨vs, sqt_mono s h1, by rw [← h2.length]; exact hi⟩
theorem wk_lstG {K : PySem.W.Frag} (hK : K = W.K) {a : Addr} {vs : List V} (q : SqL W.K G a vs) (r : Reps W G xs vs) : Wk W ε σ H G (Itl K a) xs := by
  subst hK
  refine ⟨[], fun H G => SqL W.K G a vs ∧ Reps W G xs vs, ⟨q, r⟩, ⟨fun H G H' G' ⟨h1, h2⟩ s _ _ => ⟨sql_mono s h1, h2.mono s⟩, fun i H G ⟨h1, h2⟩ s hi => ?_, fun i H G v H' x ⟨h1, h2⟩ s hy hx => ?_, fun i H G ⟨h1, h2⟩ s hi => ?_⟩, fun _ h => nomatch h⟩
  · have hv : i < vs.length := by rw [← h2.length]; exact hi
    exact ⟨vs, vs[i], sql_mono s h1, by simp [hv]⟩
  · obtain ⟨rfl, hy⟩ := hy
    obtain ⟨u, h3, h4⟩ := h2.get hx
    have := hy vs (sql_mono s h1)
    rw [h3] at this; cases this
    exact ⟨G, .refl s, h4⟩
  · exact ⟨vs, sql_mono s h1, by rw [← h2.length]; exact hi⟩
theorem wk_lstO {K : PySem.W.Frag} {a : Addr} {vs : List V} (q : H a = some (.lst vs)) (r : Reps W G xs vs) (n : ¬ OA ε σ a) : Wk W ε σ H G (Itl K a) xs := by
  refine ⟨[a], fun H G => H a = some (.lst vs) ∧ Reps W G xs vs, ⟨q, r⟩, ⟨fun H G H' G' ⟨h1, h2⟩ s _ k => ⟨k a (by simp) _ h1, h2.mono s⟩, fun i H G ⟨h1, h2⟩ s hi => ?_, fun i H G v H' x ⟨h1, h2⟩ s hy hx => ?_, fun i H G ⟨h1, h2⟩ s hi => ?_⟩, fun b hb => ?_⟩
  · have hv : i < vs.length := by rw [← h2.length]; exact hi
    exact ⟨vs, vs[i], SqL.of h1, by simp [hv]⟩
  · obtain ⟨rfl, hy⟩ := hy
    obtain ⟨u, h3, h4⟩ := h2.get hx
    have := hy vs (SqL.of h1)
    rw [h3] at this; cases this
    exact ⟨G, .refl s, h4⟩
  · exact ⟨vs, SqL.of h1, by rw [← h2.length]; exact hi⟩
  · have e : b = a := by simpa using hb
    subst e
    exact ⟨⟨_, q⟩, n⟩
theorem wk_range {lo : Int} {n : Nat} {hi : Int} (h : n = (hi - lo).toNat) : Wk W ε σ H G (Itr lo n) (rangeV lo hi) := by
  have hl : (rangeV lo hi).length = n := by unfold rangeV; rw [List.length_map, List.length_range, h]
  refine ⟨[], fun _ _ => True, trivial, ⟨fun _ _ _ _ _ _ _ _ => trivial, fun i H G _ s hi => hl ▸ hi, fun i H G v H' x _ s hy hx => ?_, fun i H G _ s hi => hl ▸ hi⟩, fun _ h => nomatch h⟩
  obtain ⟨rfl, rfl⟩ := hy
  refine ⟨G, .refl s, ?_⟩
  have hb := (List.getElem?_eq_some_iff.mp hx).1
  rw [hl, h] at hb
  unfold rangeV at hx
  rw [List.getElem?_map, List.getElem?_range hb] at hx
  cases hx
  exact .int _
theorem wk_str {s0 : Str} : Wk W ε σ H G (Its s0) (signsV s0) := by
  refine ⟨[], fun _ _ => True, trivial, ⟨fun _ _ _ _ _ _ _ _ => trivial, fun i H G _ s hi => ?_, fun i H G v H' x _ s hy hx => ?_, fun i H G _ s hi => ?_⟩, fun _ h => nomatch h⟩
  · unfold signsV at hi
    rw [List.length_map] at hi
    exact hi
  · obtain ⟨rfl, c, hc, rfl⟩ := hy
    refine ⟨G, .refl s, ?_⟩
    unfold signsV at hx
    rw [List.getElem?_map] at hx
    have hc' : s0.cps.toList[i]? = some c := by simpa using hc
    rw [hc'] at hx
    cases hx
    exact .str _
  · unfold signsV at hi
    rw [List.length_map] at hi
    exact hi
theorem enumV_get : ∀ {xs : List Val} {n i : Nat}, (enumV n xs)[i]? = (xs[i]?).map fun x => .tup [.int ((n + i : Nat) : Int), x]
  | [], n, i => by simp [enumV]
  | x :: xs, n, 0 => by simp [enumV]
  | x :: xs, n, i + 1 => by
    simp only [enumV, List.getElem?_cons_succ]
    rw [enumV_get]
    congr 1
    funext y
    rw [show n + 1 + i = n + (i + 1) by omega]
theorem enumV_length : ∀ {xs : List Val} {n : Nat}, (enumV n xs).length = xs.length
  | [], _ => rfl
  | x :: xs, n => by simp [enumV, enumV_length]
theorem wk_enumT {K : PySem.W.Frag} (hK : K = W.K) {a : Addr} {vs : List V} (q : SqT W.K G a vs) (r : Reps W G xs vs) : Wk W ε σ H G (IteT K a) (enumV 0 xs) := by
  subst hK
  refine ⟨[], fun H G => SqT W.K G a vs ∧ Reps W G xs vs, ⟨q, r⟩, ⟨fun H G H' G' ⟨h1, h2⟩ s _ _ => ⟨sqt_mono s h1, h2.mono s⟩, fun i H G ⟨h1, h2⟩ s hi => ?_, fun i H G v H' x ⟨h1, h2⟩ s hy hx => ?_, fun i H G ⟨h1, h2⟩ s hi => ?_⟩, fun _ h => nomatch h⟩
  · have hv : i < vs.length := by rw [← h2.length, ← enumV_length (n := 0)]; exact hi
    exact ⟨vs, vs[i], sqt_mono s h1, by simp [hv]⟩
  · obtain ⟨T, y, rfl, hn, rfl, hy⟩ := hy
    rw [enumV_get] at hx
    cases e : xs[i]? with
    | none => rw [e] at hx; cases hx
    | some d =>
      rw [e] at hx; cases hx
      obtain ⟨u, h3, h4⟩ := h2.get e
      have := hy vs (sqt_mono s h1)
      rw [h3] at this; cases this
      obtain ⟨a1, a2⟩ := AR.newTup (W := W) s hn (.cons (.int ((0 + i : Nat) : Int)) (.cons h4 .nil))
      refine ⟨_, ?_, a2⟩
      have e0 : ((0 + i : Nat) : Int) = ((i : Nat) : Int) := by omega
      rw [e0] at a1
      rw [e0]
      exact a1
  · exact ⟨vs, sqt_mono s h1, by rw [← h2.length, ← enumV_length (n := 0)]; exact hi⟩
theorem wk_enumL {K : PySem.W.Frag} (hK : K = W.K) {a : Addr} {vs : List V} (q : SqL W.K G a vs) (r : Reps W G xs vs) : Wk W ε σ H G (Ite K a) (enumV 0 xs) := by
  subst hK
  refine ⟨[], fun H G => SqL W.K G a vs ∧ Reps W G xs vs, ⟨q, r⟩, ⟨fun H G H' G' ⟨h1, h2⟩ s _ _ => ⟨sql_mono s h1, h2.mono s⟩, fun i H G ⟨h1, h2⟩ s hi => ?_, fun i H G v H' x ⟨h1, h2⟩ s hy hx => ?_, fun i H G ⟨h1, h2⟩ s hi => ?_⟩, fun _ h => nomatch h⟩
  · have hv : i < vs.length := by rw [← h2.length, ← enumV_length (n := 0)]; exact hi
    exact ⟨vs, vs[i], sql_mono s h1, by simp [hv]⟩
  · obtain ⟨T, y, rfl, hn, rfl, hy⟩ := hy
    rw [enumV_get] at hx
    cases e : xs[i]? with
    | none => rw [e] at hx; cases hx
    | some d =>
      rw [e] at hx; cases hx
      obtain ⟨u, h3, h4⟩ := h2.get e
      have := hy vs (sql_mono s h1)
      rw [h3] at this; cases this
      obtain ⟨a1, a2⟩ := AR.newTup (W := W) s hn (.cons (.int ((0 + i : Nat) : Int)) (.cons h4 .nil))
      refine ⟨_, ?_, a2⟩
      have e0 : ((0 + i : Nat) : Int) = ((i : Nat) : Int) := by omega
      rw [e0] at a1
      rw [e0]
      exact a1
  · exact ⟨vs, sql_mono s h1, by rw [← h2.length, ← enumV_length (n := 0)]; exact hi⟩
theorem zipV_get : ∀ {xs ys : List Val} {i : Nat} {z : Val}, (zipV xs ys)[i]? = some z → ∃ x y, xs[i]? = some x ∧ ys[i]? = some y ∧ z = .tup [x, y]
  | [], _, i, z, h => by simp [zipV] at h
  | _ :: _, [], i, z, h => by simp [zipV] at h
  | x :: xs, y :: ys, 0, z, h => by
    simp [zipV] at h
    exact ⟨x, y, rfl, rfl, h.symm⟩
  | x :: xs, y :: ys, i + 1, z, h => by
    simp only [zipV, List.getElem?_cons_succ] at h
    exact zipV_get (i := i) h
theorem zipV_length : ∀ {xs ys : List Val}, (zipV xs ys).length = min xs.length ys.length
  | [], _ => by simp [zipV]
  | _ :: _, [] => by simp [zipV]
  | x :: xs, y :: ys => by simp [zipV, zipV_length, Nat.succ_min_succ]
theorem wk_zipT {K : PySem.W.Frag} (hK : K = W.K) {a b : Addr} {vs us : List V} {ys : List Val} (q : SqT W.K G a vs) (r : Reps W G xs vs) (q' : SqT W.K G b us) (r' : Reps W G ys us) : Wk W ε σ H G (ItzT K a b) (zipV xs ys) := by
  subst hK
  refine ⟨[], fun H G => (SqT W.K G a vs ∧ Reps W G xs vs) ∧ (SqT W.K G b us ∧ Reps W G ys us), ⟨⟨q, r⟩, ⟨q', r'⟩⟩, ⟨fun H G H' G' ⟨⟨h1, h2⟩, ⟨k1, k2⟩⟩ s _ _ => ⟨⟨sqt_mono s h1, h2.mono s⟩, ⟨sqt_mono s k1, k2.mono s⟩⟩, fun i H G ⟨⟨h1, h2⟩, ⟨k1, k2⟩⟩ s hi => ?_, fun i H G v H' x ⟨⟨h1, h2⟩, ⟨k1, k2⟩⟩ s hy hx => ?_, fun i H G ⟨⟨h1, h2⟩, ⟨k1, k2⟩⟩ s hi => ?_⟩, fun _ h => nomatch h⟩
  · rw [zipV_length, h2.length, k2.length] at hi
    have hv : i < vs.length := by omega
    have hu : i < us.length := by omega
    exact ⟨vs, us, vs[i], us[i], sqt_mono s h1, sqt_mono s k1, by simp [hv], by simp [hu]⟩
  · obtain ⟨T, y, z, rfl, hn, rfl, hy, hz⟩ := hy
    obtain ⟨d, e, e1, e2, rfl⟩ := zipV_get hx
    obtain ⟨u1, h3, h4⟩ := h2.get e1
    obtain ⟨u2, h5, h6⟩ := k2.get e2
    have := hy vs (sqt_mono s h1)
    rw [h3] at this; cases this
    have := hz us (sqt_mono s k1)
    rw [h5] at this; cases this
    obtain ⟨a1, a2⟩ := AR.newTup (W := W) s hn (.cons h4 (.cons h6 .nil))
    exact ⟨_, a1, a2⟩
  · rw [zipV_length, h2.length, k2.length] at hi
    exact ⟨vs, us, sqt_mono s h1, sqt_mono s k1, by omega⟩
theorem wk_zipL {K : PySem.W.Frag} (hK : K = W.K) {a b : Addr} {vs us : List V} {ys : List Val} (q : SqL W.K G a vs) (r : Reps W G xs vs) (q' : SqL W.K G b us) (r' : Reps W G ys us) : Wk W ε σ H G (Itz K a b) (zipV xs ys) := by
  subst hK
  refine ⟨[], fun H G => (SqL W.K G a vs ∧ Reps W G xs vs) ∧ (SqL W.K G b us ∧ Reps W G ys us), ⟨⟨q, r⟩, ⟨q', r'⟩⟩, ⟨fun H G H' G' ⟨⟨h1, h2⟩, ⟨k1, k2⟩⟩ s _ _ => ⟨⟨sql_mono s h1, h2.mono s⟩, ⟨sql_mono s k1, k2.mono s⟩⟩, fun i H G ⟨⟨h1, h2⟩, ⟨k1, k2⟩⟩ s hi => ?_, fun i H G v H' x ⟨⟨h1, h2⟩, ⟨k1, k2⟩⟩ s hy hx => ?_, fun i H G ⟨⟨h1, h2⟩, ⟨k1, k2⟩⟩ s hi => ?_⟩, fun _ h => nomatch h⟩
  · rw [zipV_length, h2.length, k2.length] at hi
    have hv : i < vs.length := by omega
    have hu : i < us.length := by omega
    exact ⟨vs, us, vs[i], us[i], sql_mono s h1, sql_mono s k1, by simp [hv], by simp [hu]⟩
  · obtain ⟨T, y, z, rfl, hn, rfl, hy, hz⟩ := hy
    obtain ⟨d, e, e1, e2, rfl⟩ := zipV_get hx
    obtain ⟨u1, h3, h4⟩ := h2.get e1
    obtain ⟨u2, h5, h6⟩ := k2.get e2
    have := hy vs (sql_mono s h1)
    rw [h3] at this; cases this
    have := hz us (sql_mono s k1)
    rw [h5] at this; cases this
    obtain ⟨a1, a2⟩ := AR.newTup (W := W) s hn (.cons h4 (.cons h6 .nil))
    exact ⟨_, a1, a2⟩
  · rw [zipV_length, h2.length, k2.length] at hi
    exact ⟨vs, us, sql_mono s h1, sql_mono s k1, by omega⟩
end
#print Its
end Eng
end
section
set_option Elab.async false
set_option linter.all false
set_option maxRecDepth 100000
set_option maxHeartbeats 4000000
/-! EK: slots masked for a while: blocks, things that are walked. -/
namespace Eng
open PySem PySem.Spec PyProof.Rows L2 RZ
section
variable {W : Wr} {ε ε' ε0 ε1 ε2 : Env} {σ σ' σ0 : L2.St} {H G H' G' H1 G1 H2 G2 : Hp}
theorem Rel.there (r : Rel W ε σ H G) {a : Addr} (h : OA ε σ a) : ∃ o, H a = some o := by
  obtain ⟨i, ⟨d, hd⟩, hs⟩ := h
  obtain ⟨b, h1, h2⟩ := r.own i d hd
  rw [hs] at h1; cases h1
  exact h2.there
/-- slots masked -/
theorem Rel.mask (r : Rel W ε σ H G) (P : Nat → Prop) (l0 : ε0.length = ε.length) (l1 : σ0.length = σ.length) (hi : ∀ j : Nat, P j → ε0[j]? = none ∨ ε0[j]? = some .un ∨ ε0[j]? = some .sh) (ho : ∀ j : Nat, ¬ P j → ε0[j]? = ε[j]? ∧ σ0[j]? = σ[j]?) : Rel W ε0 σ0 H G := by
  have np : ∀ {j : Nat} {s : Slot}, ε0[j]? = some s → s ≠ .un → s ≠ .sh → ¬ P j := fun {j s} e n1 n2 p => by
    rcases hi j p with h | h | h <;> rw [e] at h
    · cases h
    · exact n1 (Option.some.inj h)
    · exact n2 (Option.some.inj h)
  have ns : ∀ {j : Nat}, OwnS ε0 j → ¬ P j := fun {j} ⟨d, h⟩ => by
    rcases h with h | h
    · exact np h (fun e => nomatch e) (fun e => nomatch e)
    · exact np h (fun e => nomatch e) (fun e => nomatch e)
  have os : ∀ {j : Nat}, OwnS ε0 j → OwnS ε j := fun {j} h => by
    obtain ⟨d, h1⟩ := id h
    rw [(ho j (ns h)).1] at h1
    exact ⟨d, h1⟩
  refine ⟨by rw [l0, l1, r.len], r.sub, fun i d e => ?_, fun i d e => ?_, fun i j a h1 h2 e1 e2 => ?_⟩
  · have n := np e (fun e => nomatch e) (fun e => nomatch e)
    rw [(ho i n).1] at e
    rw [(ho i n).2]
    exact r.val i d e
  · have n := ns ⟨d, e⟩
    rw [(ho i n).1] at e
    rw [(ho i n).2]
    exact r.own i d e
  · rw [(ho i (ns h1)).2] at e1
    rw [(ho j (ns h2)).2] at e2
    exact r.apart i j a (os h1) (os h2) e1 e2
/-- a step among masked slots, the slots as they were behind it -/
theorem Stp.mask (P : Nat → Prop) (r : Rel W ε σ H G) (s : Stp W ε0 σ0 H G ε2 H' G') (hi : ∀ j : Nat, P j → ε0[j]? = none ∨ ε0[j]? = some .un ∨ ε0[j]? = some .sh) (ho : ∀ j : Nat, ¬ P j → ε0[j]? = ε[j]? ∧ σ0[j]? = σ[j]?)
    (l : ε'.length = ε.length) (hi' : ∀ j : Nat, P j → ε'[j]? = ε[j]?) (ho' : ∀ j : Nat, ¬ P j → ε'[j]? = ε2[j]?) : Stp W ε σ H G ε' H' G' := by
  have ns : ∀ {j : Nat}, OwnS ε0 j → ¬ P j := fun {j} ⟨d, h⟩ p => by
    rcases hi j p with q | q | q <;> rcases h with h | h <;> (rw [h] at q; cases q)
  have os : ∀ {j : Nat}, OwnS ε0 j → OwnS ε j := fun {j} h => by
    obtain ⟨d, h1⟩ := id h
    rw [(ho j (ns h)).1] at h1
    exact ⟨d, h1⟩
  have oa0 : ∀ {a : Addr}, OA ε0 σ0 a → ∃ j : Nat, ¬ P j ∧ OwnS ε j ∧ σ[j]? = some (some (.ref a)) := fun {a} ⟨j, h1, h2⟩ => ⟨j, ns h1, os h1, by rw [← (ho j (ns h1)).2]; exact h2⟩
  have oa : ∀ {a : Addr}, OA ε0 σ0 a → OA ε σ a := fun {a} h => by
    obtain ⟨j, _, h1, h2⟩ := oa0 h
    exact ⟨j, h1, h2⟩
  have own' : ∀ {j : Nat}, OwnS ε' j → (P j ∧ OwnS ε j) ∨ (¬ P j ∧ OwnS ε2 j) := fun {j} h => by
    obtain ⟨d, h1⟩ := id h
    by_cases p : P j
    · rw [hi' j p] at h1; exact .inl ⟨p, d, h1⟩
    · rw [ho' j p] at h1; exact .inr ⟨p, d, h1⟩
  have out : ∀ {j : Nat} {a : Addr}, ¬ P j → OwnS ε2 j → σ[j]? = some (some (.ref a)) → ∃ k : Nat, ¬ P k ∧ OwnS ε k ∧ σ[k]? = some (some (.ref a)) := fun {j a} p h e => oa0 (s.oa a ⟨j, h, by rw [(ho j p).2]; exact e⟩)
  refine ⟨⟨by rw [l, r.len], s.rel.sub, fun i d e => ?_, fun i d e => ?_, fun i j a h1 h2 e1 e2 => ?_⟩, s.grow, fun a o e n => s.keep a o e fun z => n (oa z), fun a o e n => s.newG a o e fun z => n (oa z), fun a z => ?_, fun i => ?_, fun i e => ?_, s.there⟩
  · by_cases p : P i
    · rw [hi' i p] at e
      obtain ⟨v, h1, h2⟩ := r.val i d e
      exact ⟨v, h1, h2.mono s.grow⟩
    · rw [ho' i p] at e
      obtain ⟨v, h1, h2⟩ := s.rel.val i d e
      exact ⟨v, by rw [← (ho i p).2]; exact h1, h2⟩
  · by_cases p : P i
    · rw [hi' i p] at e
      obtain ⟨a, h1, h2⟩ := r.own i d e
      have n : ¬ OA ε0 σ0 a := fun z => by
        obtain ⟨j, q1, q2, q3⟩ := oa0 z
        have := r.apart i j a ⟨d, e⟩ q2 h1 q3
        subst this
        exact q1 p
      obtain ⟨u, hu⟩ := h2.there
      exact ⟨a, h1, h2.keep s.grow (fun u e => s.keep _ _ e n) (s.newG _ _ hu n)⟩
    · rw [ho' i p] at e
      obtain ⟨a, h1, h2⟩ := s.rel.own i d e
      exact ⟨a, by rw [← (ho i p).2]; exact h1, h2⟩
  · rcases own' h1 with ⟨p1, q1⟩ | ⟨p1, q1⟩ <;> rcases own' h2 with ⟨p2, q2⟩ | ⟨p2, q2⟩
    · exact r.apart i j a q1 q2 e1 e2
    · obtain ⟨k, k1, k2, k3⟩ := out p2 q2 e2
      have := r.apart i k a q1 k2 e1 k3
      subst this
      exact absurd p1 k1
    · obtain ⟨k, k1, k2, k3⟩ := out p1 q1 e1
      have := r.apart j k a q2 k2 e2 k3
      subst this
      exact absurd p2 k1
    · exact s.rel.apart i j a q1 q2 (by rw [(ho i p1).2]; exact e1) (by rw [(ho j p2).2]; exact e2)
  · obtain ⟨j, h1, h2⟩ := z
    rcases own' h1 with ⟨p1, q1⟩ | ⟨p1, q1⟩
    · exact ⟨j, q1, h2⟩
    · obtain ⟨k, k1, k2, k3⟩ := out p1 q1 h2
      exact ⟨k, k2, k3⟩
  · by_cases p : P i
    · rw [hi' i p]
    · rw [ho' i p, ← s.lent i, (ho i p).1]
  · by_cases p : P i
    · rw [hi' i p]; exact e
    · rw [ho' i p]
      exact s.un i (by rw [(ho i p).1]; exact e)
/-! ### one's slots read -/
theorem wipeE_length (ε : Env) : ∀ is : List Nat, (wipeE ε is).length = ε.length
  | [] => rfl
  | i :: is => by unfold wipeE; rw [List.length_set, wipeE_length ε is]
theorem wipeE_get (ε : Env) (j : Nat) : ∀ is : List Nat, (wipeE ε is)[j]? = if j ∈ is ∧ j < ε.length then some .un else ε[j]?
  | [] => by simp [wipeE]
  | i :: is => by
    unfold wipeE
    rw [set_get, wipeE_length, wipeE_get ε j is]
    by_cases h1 : i = j
    · subst h1
      by_cases h2 : i < ε.length <;> simp [h2]
    · by_cases h2 : j ∈ is ∧ j < ε.length
      · rw [if_neg (by rintro ⟨z, _⟩; exact h1 z), if_pos h2, if_pos ⟨by simp [h2.1], h2.2⟩]
      · rw [if_neg (by rintro ⟨z, _⟩; exact h1 z), if_neg h2, if_neg (by rintro ⟨z, q⟩; simp [Ne.symm h1] at z; exact h2 ⟨z, q⟩)]
theorem wipe_get (σ : L2.St) (j : Nat) : ∀ is : List Nat, (wipe σ is)[j]? = if j ∈ is ∧ j < σ.length then some none else σ[j]?
  | [] => by simp [wipe]
  | i :: is => by
    unfold wipe
    rw [List.getElem?_set, wipe_length, wipe_get σ j is]
    by_cases h1 : i = j
    · subst h1
      by_cases h2 : i < σ.length
      · simp [h2]
      · simp [h2]
    · by_cases h2 : j ∈ is ∧ j < σ.length
      · rw [if_neg h1, if_pos h2, if_pos ⟨by simp [h2.1], h2.2⟩]
      · rw [if_neg h1, if_neg h2, if_neg (by rintro ⟨z, q⟩; simp [Ne.symm h1] at z; exact h2 ⟨z, q⟩)]
theorem restE_length (ε ε' : Env) : ∀ is : List Nat, (restE ε ε' is).length = ε'.length
  | [] => rfl
  | i :: is => by
    unfold restE
    split
    · rw [List.length_set, restE_length ε ε' is]
    · exact restE_length ε ε' is
theorem restE_get {ε ε' : Env} (l : ε'.length = ε.length) (j : Nat) : ∀ is : List Nat, (restE ε ε' is)[j]? = if j ∈ is then ε[j]? else ε'[j]?
  | [] => by simp [restE]
  | i :: is => by
    unfold restE
    have ih := restE_get l j is
    by_cases h1 : i = j
    · subst h1
      cases e : ε[i]? with
      | none =>
        have hi : ε.length ≤ i := List.getElem?_eq_none_iff.mp e
        simp only [ih, e]
        rw [List.getElem?_eq_none (by omega : ε'.length ≤ i)]
        simp
      | some s =>
        have hi : i < ε.length := (List.getElem?_eq_some_iff.mp e).1
        simp only
        rw [set_get, if_pos ⟨rfl, by rw [restE_length]; omega⟩, if_pos (by simp)]
    · have e2 : (j ∈ i :: is) = (j ∈ is) := by simp [Ne.symm h1]
      cases e : ε[i]? with
      | none => simp only [ih, e2]
      | some s =>
        simp only
        rw [set_get, if_neg (by rintro ⟨z, _⟩; exact h1 z), ih]
        simp only [e2]
theorem getq_ext {α : Type} {a b : List α} (h : ∀ i : Nat, a[i]? = b[i]?) : a = b := List.ext_getElem? h
/-- into a block -/
theorem blk_in (r : Rel W ε σ H G) (own : List Nat) : Rel W (wipeE ε own) (wipe σ own) H G :=
  r.mask (fun j => j ∈ own) (wipeE_length ε own) (wipe_length σ own) (fun j p => by
    rw [wipeE_get]
    by_cases h : j < ε.length
    · rw [if_pos ⟨p, h⟩]; exact .inr (.inl rfl)
    · rw [if_neg (by rintro ⟨_, z⟩; exact h z), List.getElem?_eq_none (by omega)]; exact .inl rfl)
    fun j p => by
      rw [wipeE_get, wipe_get, if_neg (by rintro ⟨z, _⟩; exact p z), if_neg (by rintro ⟨z, _⟩; exact p z)]
      exact ⟨rfl, rfl⟩
/-- out of a block -/
theorem blk_out {own : List Nat} (r : Rel W ε σ H G) (l : ε2.length = ε.length) (s : Stp W (wipeE ε own) (wipe σ own) H G (wipeE ε2 own) H' G') : Stp W ε σ H G (restE ε ε2 own) H' G' := by
  refine Stp.mask (fun j => j ∈ own) r s (fun j p => ?_) (fun j p => ?_) (by rw [restE_length, l]) (fun j p => ?_) fun j p => ?_
  · rw [wipeE_get]
    by_cases h : j < ε.length
    · rw [if_pos ⟨p, h⟩]; exact .inr (.inl rfl)
    · rw [if_neg (by rintro ⟨_, z⟩; exact h z), List.getElem?_eq_none (by omega)]; exact .inl rfl
  · rw [wipeE_get, wipe_get, if_neg (by rintro ⟨z, _⟩; exact p z), if_neg (by rintro ⟨z, _⟩; exact p z)]
    exact ⟨rfl, rfl⟩
  · rw [restE_get l, if_pos p]
  · rw [restE_get l, if_neg p, wipeE_get, if_neg (by rintro ⟨z, _⟩; exact p z)]
/-- a step within a block, the block's own slots away -/
theorem Stp.wiped {own : List Nat} (s : Stp W ε σ H G ε' H' G') (n : ∀ i ∈ own, ¬ OwnS ε i) : Stp W (wipeE ε own) (wipe σ own) H G (wipeE ε' own) H' G' := by
  have l : ε'.length = ε.length ∨ True := .inr trivial
  have os : ∀ {ε : Env} {j : Nat}, OwnS (wipeE ε own) j → OwnS ε j ∧ j ∉ own := fun {ε j} ⟨d, h⟩ => by
    rw [wipeE_get] at h
    by_cases q : j ∈ own ∧ j < ε.length
    · rw [if_pos q] at h; rcases h with h | h <;> cases h
    · rw [if_neg q] at h
      refine ⟨⟨d, h⟩, fun z => q ⟨z, ?_⟩⟩
      rcases h with h | h <;> exact (List.getElem?_eq_some_iff.mp h).1
  have os2 : ∀ {ε : Env} {j : Nat}, OwnS ε j → j ∉ own → OwnS (wipeE ε own) j := fun {ε j} ⟨d, h⟩ z => ⟨d, by rw [wipeE_get, if_neg (by rintro ⟨q, _⟩; exact z q)]; exact h⟩
  have oa1 : ∀ {ε : Env} {a : Addr}, OA (wipeE ε own) (wipe σ own) a → OA ε σ a := fun {ε a} ⟨j, h1, h2⟩ => by
    obtain ⟨h3, h4⟩ := os h1
    rw [wipe_get, if_neg (by rintro ⟨q, _⟩; exact h4 q)] at h2
    exact ⟨j, h3, h2⟩
  have oa2 : ∀ {a : Addr}, OA ε σ a → OA (wipeE ε own) (wipe σ own) a := fun {a} ⟨j, h1, h2⟩ => by
    have hj : j ∉ own := fun z => n j z h1
    exact ⟨j, os2 h1 hj, by rw [wipe_get, if_neg (by rintro ⟨q, _⟩; exact hj q)]; exact h2⟩
  refine ⟨blk_in s.rel own, s.grow, fun a o e m => s.keep a o e fun z => m (oa2 z), fun a o e m => s.newG a o e fun z => m (oa2 z), fun a z => oa2 (s.oa a (oa1 z)), fun i => ?_, fun i e => ?_, s.there⟩
  · rw [wipeE_get, wipeE_get]
    by_cases q : i ∈ own
    · constructor
      · rintro ⟨d, h⟩
        by_cases z : i < ε.length
        · rw [if_pos ⟨q, z⟩] at h; cases h
        · rw [if_neg (by rintro ⟨_, w⟩; exact z w), List.getElem?_eq_none (by omega)] at h; cases h
      · rintro ⟨d, h⟩
        by_cases z : i < ε'.length
        · rw [if_pos ⟨q, z⟩] at h; cases h
        · rw [if_neg (by rintro ⟨_, w⟩; exact z w), List.getElem?_eq_none (by omega)] at h; cases h
    · rw [if_neg (by rintro ⟨z, _⟩; exact q z), if_neg (by rintro ⟨z, _⟩; exact q z)]
      exact s.lent i
  · rw [wipeE_get] at e ⊢
    by_cases q : i ∈ own
    · by_cases z : i < ε.length
      · rw [if_pos ⟨q, z⟩] at e; cases e
      · rw [if_neg (by rintro ⟨_, w⟩; exact z w), List.getElem?_eq_none (by omega)] at e; cases e
    · rw [if_neg (by rintro ⟨z, _⟩; exact q z)] at e ⊢
      exact s.un i e
theorem wipeE_idem (ε : Env) (own : List Nat) : wipeE (wipeE ε own) own = wipeE ε own := by
  refine getq_ext fun i => ?_
  rw [wipeE_get, wipeE_length, wipeE_get]
  by_cases h : i ∈ own ∧ i < ε.length
  · rw [if_pos h, if_pos h]
  · rw [if_neg h, if_neg h]
theorem wipeE_same {own : List Nat} (l : ε.length = ε'.length) (h : ∀ j : Nat, j ∉ own → ε[j]? = ε'[j]?) : wipeE ε own = wipeE ε' own := by
  refine getq_ext fun i => ?_
  rw [wipeE_get, wipeE_get, l]
  by_cases q : i ∈ own ∧ i < ε'.length
  · rw [if_pos q, if_pos q]
  · rw [if_neg q, if_neg q]
    by_cases z : i ∈ own
    · have : ¬ i < ε'.length := fun w => q ⟨z, w⟩
      rw [List.getElem?_eq_none (by omega), List.getElem?_eq_none (by omega)]
    · exact h i z
theorem wipe_same {own : List Nat} (l : σ.length = σ'.length) (h : ∀ j : Nat, j ∉ own → σ[j]? = σ'[j]?) : wipe σ own = wipe σ' own := by
  refine getq_ext fun i => ?_
  rw [wipe_get, wipe_get, l]
  by_cases q : i ∈ own ∧ i < σ'.length
  · rw [if_pos q, if_pos q]
  · rw [if_neg q, if_neg q]
    by_cases z : i ∈ own
    · have : ¬ i < σ'.length := fun w => q ⟨z, w⟩
      rw [List.getElem?_eq_none (by omega), List.getElem?_eq_none (by omega)]
    · exact h i z
/-! ### what is walked is shut -/
/-- the slot that is shut -/
def shIx (r : RV) (ε : Env) : Option Nat := match r with
  | .b i => if isOwnS ε[i]? then some i else none
  | _ => none
theorem isOwnS_no {o : Option Slot} (h1 : ∀ d, o = some (.own d) → False) (h2 : ∀ d, o = some (.lent d) → False) : ¬ isOwnS o = true := by
  intro h
  match o, h with
  | some (.own d), _ => exact h1 d rfl
  | some (.lent d), _ => exact h2 d rfl
theorem shIx_b {i : Nat} {ε : Env} : shIx (.b i) ε = if isOwnS ε[i]? then some i else none := rfl
theorem shut_get {r : RV} {ε : Env} (j : Nat) : (shut r ε)[j]? = if shIx r ε = some j then some .sh else ε[j]? := by
  have one : ∀ {i : Nat}, i < ε.length → shIx (.b i) ε = some i → (ε.set i .sh)[j]? = if shIx (.b i) ε = some j then some .sh else ε[j]? := fun {i} hl e => by
    rw [e, set_get]
    by_cases q : i = j
    · subst q; simp [hl]
    · simp [q]
  cases r with
  | v d => simp [shut, shIx]
  | o d => simp [shut, shIx]
  | b i =>
    show (match ε[i]? with | some (.own _) => ε.set i .sh | some (.lent _) => ε.set i .sh | _ => ε)[j]? = _
    split
    · rename_i d e
      exact one (List.getElem?_eq_some_iff.mp e).1 (by rw [shIx_b, e]; rfl)
    · rename_i d e
      exact one (List.getElem?_eq_some_iff.mp e).1 (by rw [shIx_b, e]; rfl)
    · rename_i h1 h2
      rw [shIx_b, if_neg (isOwnS_no h1 h2)]
      simp
theorem shut_length {r : RV} {ε : Env} : (shut r ε).length = ε.length := by
  cases r with
  | v d => rfl
  | o d => rfl
  | b i =>
    unfold shut
    simp only
    split <;> first | rfl | rw [List.length_set]
theorem reopen_get {r : RV} {ε ε' : Env} (l : ε'.length = ε.length) (j : Nat) : (reopen r ε ε')[j]? = if shIx r ε = some j then ε[j]? else ε'[j]? := by
  have one : ∀ {i : Nat} {x : Slot}, ε[i]? = some x → shIx (.b i) ε = some i → (ε'.set i x)[j]? = if shIx (.b i) ε = some j then ε[j]? else ε'[j]? := fun {i x} hl e => by
    rw [e, set_get]
    by_cases q : i = j
    · subst q
      have : i < ε'.length := by rw [l]; exact (List.getElem?_eq_some_iff.mp hl).1
      simp [this, hl]
    · simp [q]
  cases r with
  | v d => simp [reopen, shIx]
  | o d => simp [reopen, shIx]
  | b i =>
    show (match ε[i]? with | some (.own d) => ε'.set i (.own d) | some (.lent d) => ε'.set i (.lent d) | _ => ε')[j]? = _
    split
    · rename_i d e
      exact one e (by rw [shIx_b, e]; rfl)
    · rename_i d e
      exact one e (by rw [shIx_b, e]; rfl)
    · rename_i h1 h2
      rw [shIx_b, if_neg (isOwnS_no h1 h2)]
      simp
theorem reopen_length {r : RV} {ε ε' : Env} : (reopen r ε ε').length = ε'.length := by
  cases r with
  | v d => rfl
  | o d => rfl
  | b i =>
    unfold reopen
    simp only
    split <;> first | rfl | rw [List.length_set]
theorem shut_rel {r : RV} (q : Rel W ε σ H G) : Rel W (shut r ε) σ H G :=
  q.mask (fun j => shIx r ε = some j) shut_length rfl (fun j p => .inr (.inr (by rw [shut_get, if_pos p]))) fun j p => ⟨by rw [shut_get, if_neg p], rfl⟩
theorem reopen_stp {r : RV} (q : Rel W ε σ H G) (l : ε2.length = ε.length) (s : Stp W (shut r ε) σ H G ε2 H' G') : Stp W ε σ H G (reopen r ε ε2) H' G' :=
  Stp.mask (fun j => shIx r ε = some j) q s (fun j p => .inr (.inr (by rw [shut_get, if_pos p]))) (fun j p => ⟨by rw [shut_get, if_neg p], rfl⟩) (by rw [reopen_length, l]) (fun j p => by rw [reopen_get l, if_pos p]) fun j p => by rw [reopen_get l, if_neg p]
/-- an object beside all slots is written -/
theorem Stp.wr {a : Addr} {o : HO} (s : Stp W ε0 σ H1 G1 ε H G) (h1 : H1 a = none) (g : G a = none) (n : ¬ OA ε σ a) : Stp W ε0 σ H1 G1 ε (upd H a o) G where
  rel :=
    { len := s.rel.len
      sub := fun b u e => by
        by_cases hb : b = a
        · subst hb; rw [g] at e; cases e
        · rw [upd_ne hb]; exact s.rel.sub _ _ e
      val := s.rel.val
      own := fun i d e => by
        obtain ⟨b, h1, h2⟩ := s.rel.own i d e
        have hb : b ≠ a := fun z => n ⟨i, ⟨d, e⟩, z ▸ h1⟩
        exact ⟨b, h1, h2.keep (Sub.refl _) (fun u e => by rw [upd_ne hb]; exact e) rfl⟩
      apart := s.rel.apart }
  grow := s.grow
  keep := fun b u e m => by
    have hb : b ≠ a := fun z => by rw [z, h1] at e; cases e
    rw [upd_ne hb]; exact s.keep b u e m
  newG := s.newG
  oa := s.oa
  lent := s.lent
  un := s.un
  there := fun b u e => by
    by_cases hb : b = a
    · subst hb; exact ⟨_, upd_same⟩
    · rw [upd_ne hb]; exact s.there b u e
end
end Eng
end
section
set_option Elab.async false
set_option linter.all false
set_option maxRecDepth 100000
set_option maxHeartbeats 4000000
/-! EL: targets; iterators; comprehensions. -/
namespace Eng
open PySem PySem.Spec PyProof.Rows L2 RZ
section
variable {W : Wr} {ε ε' ε0 ε1 ε2 : Env} {σ σ' σ0 : L2.St} {H G H' G' H1 G1 H2 G2 : Hp}
theorem put_spec {i : Nat} {s : Slot} (h : put i s ε = some ε') : ε' = ε.set i s ∧ i < ε.length ∧ (∀ d, ε[i]? ≠ some (.lent d)) ∧ ε[i]? ≠ some .sh := by
  unfold put at h
  split at h
  · cases h
  · cases h
  · rename_i x n1 n2 e
    cases h
    refine ⟨rfl, (List.getElem?_eq_some_iff.mp e).1, fun d z => ?_, fun z => ?_⟩
    · rw [e] at z; cases z; exact n1 d rfl
    · rw [e] at z; cases z; exact n2 rfl
  · cases h
theorem put_val {i : Nat} {d : Val} {v : V} (r : Rel W ε σ H G) (k : Rep W G d v) : Rel W (ε.set i (.val d)) (σ.set i (some v)) H G := by
  have oth : ∀ {j : Nat} {x : Slot}, (ε.set i (.val d))[j]? = some x → (j = i ∧ x = .val d ∧ i < ε.length) ∨ (j ≠ i ∧ ε[j]? = some x) := fun {j x} e => by
    rw [set_get] at e
    split at e
    · rename_i h
      cases e
      exact .inl ⟨h.1.symm, rfl, h.2⟩
    · rename_i h
      refine .inr ⟨fun z => h ⟨z.symm, ?_⟩, e⟩
      subst z
      exact (List.getElem?_eq_some_iff.mp e).1
  have oS : ∀ {j : Nat}, OwnS (ε.set i (.val d)) j → j ≠ i ∧ OwnS ε j := fun {j} ⟨x, h⟩ => by
    rcases h with h | h
    · rcases oth h with ⟨_, z, _⟩ | ⟨n, z⟩
      · cases z
      · exact ⟨n, x, .inl z⟩
    · rcases oth h with ⟨_, z, _⟩ | ⟨n, z⟩
      · cases z
      · exact ⟨n, x, .inr z⟩
  refine ⟨by simp [r.len], r.sub, fun j x e => ?_, fun j x e => ?_, fun j l a h1 h2 e1 e2 => ?_⟩
  · rcases oth e with ⟨h1, h2, h3⟩ | ⟨h1, h2⟩
    · cases h2
      subst h1
      exact ⟨v, List.getElem?_set_self (by rw [← r.len]; exact h3), k⟩
    · rw [List.getElem?_set_ne (Ne.symm h1)]
      exact r.val j x h2
  · obtain ⟨h1, y, h2⟩ := oS ⟨x, e⟩
    rw [List.getElem?_set_ne (Ne.symm h1)]
    refine r.own j x ?_
    rcases e with e | e
    · rcases oth e with ⟨q, _⟩ | ⟨_, q⟩
      · exact absurd q h1
      · exact .inl q
    · rcases oth e with ⟨q, _⟩ | ⟨_, q⟩
      · exact absurd q h1
      · exact .inr q
  · obtain ⟨n1, o1⟩ := oS h1
    obtain ⟨n2, o2⟩ := oS h2
    rw [List.getElem?_set_ne (Ne.symm n1)] at e1
    rw [List.getElem?_set_ne (Ne.symm n2)] at e2
    exact r.apart j l a o1 o2 e1 e2
theorem put_own {i : Nat} {d : Val} {a : Addr} (r : Rel W ε σ H G) (k : OwnAt W H G d a) (n : ¬ OA ε σ a) : Rel W (ε.set i (.own d)) (σ.set i (some (.ref a))) H G := by
  have oth : ∀ {j : Nat} {x : Slot}, (ε.set i (.own d))[j]? = some x → (j = i ∧ x = .own d ∧ i < ε.length) ∨ (j ≠ i ∧ ε[j]? = some x) := fun {j x} e => by
    rw [set_get] at e
    split at e
    · rename_i h
      cases e
      exact .inl ⟨h.1.symm, rfl, h.2⟩
    · rename_i h
      refine .inr ⟨fun z => h ⟨z.symm, ?_⟩, e⟩
      subst z
      exact (List.getElem?_eq_some_iff.mp e).1
  have oS : ∀ {j : Nat}, OwnS (ε.set i (.own d)) j → j ≠ i → OwnS ε j := fun {j} ⟨x, h⟩ hn => by
    rcases h with h | h
    · rcases oth h with ⟨z, _, _⟩ | ⟨n, z⟩
      · exact absurd z hn
      · exact ⟨x, .inl z⟩
    · rcases oth h with ⟨z, _, _⟩ | ⟨n, z⟩
      · exact absurd z hn
      · exact ⟨x, .inr z⟩
  have lt : ∀ {j : Nat}, OwnS (ε.set i (.own d)) j → j < σ.length := fun {j} ⟨x, h⟩ => by
    have : j < (ε.set i (.own d)).length := by rcases h with h | h <;> exact (List.getElem?_eq_some_iff.mp h).1
    rw [List.length_set, r.len] at this
    exact this
  refine ⟨by simp [r.len], r.sub, fun j x e => ?_, fun j x e => ?_, fun j l b h1 h2 e1 e2 => ?_⟩
  · rcases oth e with ⟨h1, h2, h3⟩ | ⟨h1, h2⟩
    · cases h2
    · rw [List.getElem?_set_ne (Ne.symm h1)]
      exact r.val j x h2
  · by_cases hj : j = i
    · subst hj
      have hx : x = d := by
        rcases e with e | e
        · rcases oth e with ⟨_, q, _⟩ | ⟨q, _⟩
          · cases q; rfl
          · exact absurd rfl q
        · rcases oth e with ⟨_, q, _⟩ | ⟨q, _⟩
          · cases q
          · exact absurd rfl q
      subst hx
      exact ⟨a, List.getElem?_set_self (lt ⟨x, e⟩), k⟩
    · rw [List.getElem?_set_ne (Ne.symm hj)]
      refine r.own j x ?_
      rcases e with e | e
      · rcases oth e with ⟨q, _⟩ | ⟨_, q⟩
        · exact absurd q hj
        · exact .inl q
      · rcases oth e with ⟨q, _⟩ | ⟨_, q⟩
        · exact absurd q hj
        · exact .inr q
  · have l1 := lt h1
    have l2 := lt h2
    by_cases hj : j = i <;> by_cases hl : l = i
    · rw [hj, hl]
    · subst hj
      rw [List.getElem?_set_self l1] at e1
      cases e1
      rw [List.getElem?_set_ne (Ne.symm hl)] at e2
      exact absurd ⟨l, oS h2 hl, e2⟩ n
    · subst hl
      rw [List.getElem?_set_self l2] at e2
      cases e2
      rw [List.getElem?_set_ne (Ne.symm hj)] at e1
      exact absurd ⟨j, oS h1 hj, e1⟩ n
    · rw [List.getElem?_set_ne (Ne.symm hj)] at e1
      rw [List.getElem?_set_ne (Ne.symm hl)] at e2
      exact r.apart j l b (oS h1 hj) (oS h2 hl) e1 e2
/-- names have got values -/
structure TgC (ε : Env) (σ : L2.St) (is : List Nat) (ε' : Env) (σ' : L2.St) : Prop where
  len : σ'.length = σ.length
  same : ∀ j : Nat, j ∉ is → ε'[j]? = ε[j]? ∧ σ'[j]? = σ[j]?
  set : ∀ j ∈ is, (∃ d, ε'[j]? = some (.val d)) ∧ (∀ d, ε[j]? ≠ some (.lent d)) ∧ ε[j]? ≠ some .sh
theorem TgC.refl : TgC ε σ [] ε σ := ⟨rfl, fun _ _ => ⟨rfl, rfl⟩, fun _ h => nomatch h⟩
theorem TgC.one {i : Nat} {d : Val} {v : V} (h : put i (.val d) ε = some ε') : TgC ε σ [i] ε' (σ.set i (some v)) := by
  obtain ⟨rfl, h2, h3, h4⟩ := put_spec h
  refine ⟨by simp, fun j hj => ?_, fun j hj => ?_⟩
  · have hj : j ≠ i := by simpa using hj
    rw [List.getElem?_set_ne (Ne.symm hj), List.getElem?_set_ne (Ne.symm hj)]
    exact ⟨rfl, rfl⟩
  · have hj : j = i := by simpa using hj
    subst hj
    exact ⟨⟨d, List.getElem?_set_self h2⟩, h3, h4⟩
theorem TgC.cons {i : Nat} {is : List Nat} (a : TgC ε σ [i] ε1 σ0) (b : TgC ε1 σ0 is ε' σ') : TgC ε σ (i :: is) ε' σ' := by
  refine ⟨b.len.trans a.len, fun j hj => ?_, fun j hj => ?_⟩
  · have h1 : j ∉ is := fun z => hj (by simp [z])
    have h2 : j ∉ [i] := fun z => hj (by simp at z; simp [z])
    exact ⟨(b.same j h1).1.trans (a.same j h2).1, (b.same j h1).2.trans (a.same j h2).2⟩
  · by_cases h1 : j ∈ is
    · obtain ⟨q1, q2, q3⟩ := b.set j h1
      by_cases h2 : j ∈ [i]
      · exact ⟨q1, (a.set j h2).2⟩
      · rw [(a.same j h2).1] at q2 q3
        exact ⟨q1, q2, q3⟩
    · have h2 : j ∈ [i] := by
        rcases List.mem_cons.mp hj with z | z
        · simp [z]
        · exact absurd z h1
      rw [(b.same j h1).1]
      exact a.set j h2
variable (W) in
def gN (is : List Nat) : TG := fun v σ H Q => ∃ d ε ε' G, Rel W ε σ H G ∧ Rep W G d v ∧ tgs is d ε = some ε' ∧ ∀ σ', Rel W ε' σ' H G → TgC ε σ is ε' σ' → Q σ' H
variable (W) in
def gNs (is : List Nat) : TGs := fun vs σ H Q => ∃ ds ε ε' G, Rel W ε σ H G ∧ Reps W G ds vs ∧ tgs.go is ds ε = some ε' ∧ ∀ σ', Rel W ε' σ' H G → TgC ε σ is ε' σ' → Q σ' H
theorem PG.imp {X : Cx} {e : Expr} {t t' : TG} (h : PG X e t) (k : ∀ v σ H Q, t' v σ H Q → t v σ H Q) : PG X e t' := ⟨fun pins s σ H v u Q I r q => h.run pins s σ H v u Q I r (k _ _ _ _ q)⟩
theorem PGs.imp {X : Cx} {e : List Expr} {t t' : TGs} (h : PGs X e t) (k : ∀ v σ H Q, t' v σ H Q → t v σ H Q) : PGs X e t' := ⟨fun pins s σ H v u Q I r q => h.run pins s σ H v u Q I r (k _ _ _ _ q)⟩
theorem PI.imp {X : Cx} {tg e : Expr} {t t' : TI} (h : PI X tg e t) (k : ∀ σ H Q, t' σ H Q → t σ H Q) : PI X tg e t' := ⟨fun pins s σ H R I q => h.run pins s σ H R I (k _ _ _ q)⟩
theorem gN_one {i : Nat} {v : V} {Q : L2.St → Hp → Prop} (h : gN W [i] v σ H Q) : gName i v σ H Q := by
  obtain ⟨d, ε, ε', G, rel, k, e, hQ⟩ := h
  have e : put i (.val d) ε = some ε' := e
  have t := TgC.one (σ := σ) (v := v) e
  obtain ⟨rfl, _⟩ := put_spec e
  exact hQ _ (put_val rel k) t
theorem gNs_nil {vs : List V} {Q : L2.St → Hp → Prop} (h : gNs W [] vs σ H Q) : gNil vs σ H Q := by
  obtain ⟨ds, ε, ε', G, rel, k, e, hQ⟩ := h
  cases k with
  | nil =>
    have e : some ε = some ε' := e
    cases e
    exact ⟨rfl, hQ _ rel .refl⟩
  | cons q r => cases e
theorem gNs_cons {i : Nat} {is : List Nat} {vs : List V} {Q : L2.St → Hp → Prop} (h : gNs W (i :: is) vs σ H Q) : gCons (gName i) (gNs W is) vs σ H Q := by
  obtain ⟨ds, ε, ε', G, rel, k, e, hQ⟩ := h
  cases k with
  | nil => cases e
  | @cons d v ds vs q r =>
    unfold tgs.go at e
    split at e
    · rename_i ε1 e1
      refine ⟨v, vs, rfl, ?_⟩
      have t := TgC.one (σ := σ) (v := v) e1
      have rel1 : Rel W ε1 (σ.set i (some v)) H G := by
        obtain ⟨rfl, _⟩ := put_spec e1
        exact put_val rel q
      exact ⟨ds, ε1, ε', G, rel1, r, e, fun σ' rel' t' => hQ σ' rel' (t.cons t')⟩
    · cases e
theorem gN_tup {K : PySem.W.Frag} (hK : K = W.K) {i j : Nat} {is : List Nat} {v : V} {Q : L2.St → Hp → Prop} (h : gN W (i :: j :: is) v σ H Q) : gTup K (i :: j :: is).length (gNs W (i :: j :: is)) v σ H Q := by
  subst hK
  obtain ⟨d, ε, ε', G, rel, k, e, hQ⟩ := h
  cases d <;> try (cases e; done)
  rename_i xs
  simp only [tgs] at e
  split at e
  · rename_i hl
    cases k with
    | tup q r =>
      exact ⟨_, _, rfl, sqt_mono rel.sub q, by rw [hl, r.length], xs, ε, ε', G, rel, r, e, hQ⟩
  · cases e

/-! ### iterators -/
theorem rr_read {H0 : Hp} {r : RV} {v : V} {d : Val} (rel : Rel W ε σ H G) (h : look r ε = some d) (k : RR W H0 ε σ H G r v) : Rep W G d v ∨ ∃ a, v = .ref a ∧ OwnAt W H G d a ∧ ¬ OA (shut r ε) σ a := by
  cases r with
  | v x => cases h; exact .inl k
  | o x =>
    cases h
    obtain ⟨a, e, o, n, _⟩ := k
    exact .inr ⟨a, e, o, n⟩
  | b i =>
    have k : σ[i]? = some (some v) := k
    have own : ∀ {a : Addr}, OwnS ε i → v = .ref a → ¬ OA (shut (.b i) ε) σ a := fun {a} hi hv ⟨j, ⟨x, hj⟩, hs⟩ => by
      have sx : shIx (.b i) ε = some i := by
        obtain ⟨y, hy⟩ := hi
        rw [shIx_b]
        rcases hy with hy | hy <;> (rw [hy]; rfl)
      rw [shut_get, sx] at hj
      by_cases q : i = j
      · rw [if_pos (by rw [q])] at hj
        rcases hj with hj | hj <;> cases hj
      · rw [if_neg (fun z => q (Option.some.inj z))] at hj
        exact q (rel.apart i j a hi ⟨x, hj⟩ (hv ▸ k) hs)
    rcases look_b h with e | e | e
    · obtain ⟨v', h1, h2⟩ := rel.val i d e
      rw [k] at h1; cases h1
      exact .inl h2
    · obtain ⟨a, h1, h2⟩ := rel.own i d (.inl e)
      rw [k] at h1; cases h1
      exact .inr ⟨a, rfl, h2, own ⟨d, .inl e⟩ rfl⟩
    · obtain ⟨a, h1, h2⟩ := rel.own i d (.inr e)
      rw [k] at h1; cases h1
      exact .inr ⟨a, rfl, h2, own ⟨d, .inr e⟩ rfl⟩
variable {X : Cx} {D : Tbl} {F : FT}
theorem pi_seqE (hK : X.K = W.K) {tg e : Expr} {x : E} (he : PE X e (tM W (evE D F x))) : PI X tg e (tIt W (evI D F (.seq x))) := by
  refine ⟨fun pins s σ H R I h => ?_⟩
  obtain ⟨G, ε, r, xs, ε1, rel, hm, hR⟩ := h
  unfold evI at hm
  split at hm
  · rename_i r0 ε0 e0
    split at hm
    · rename_i d ed
      split at hm
      · rename_i ys ey
        cases hm
        cases d with
        | tup zs =>
          cases ey
          refine (pi_tup he).run pins s σ H R I ⟨G, ε, r, ε1, rel, e0, fun v H' G' st k => ?_⟩
          rcases rr_read st.rel ed k with k | ⟨a, _, k, _⟩
          · cases k with
            | tup q rr => exact ⟨_, rfl, ⟨_, hK ▸ sqt_mono st.rel.sub q⟩, hR _ _ _ st (wk_tup hK q rr)⟩
          · exact k.2.elim
        | lst zs =>
          cases ey
          refine (pi_list he).run pins s σ H R I ⟨G, ε, r, ε1, rel, e0, fun v H' G' st k => ?_⟩
          rcases rr_read st.rel ed k with k | ⟨a, rfl, k, n⟩
          · cases k with
            | lst q rr => exact ⟨_, rfl, ⟨_, SqL.of (st.rel.sub _ _ q)⟩, hR _ _ _ st (wk_lstG hK (SqL.of q) rr)⟩
          · obtain ⟨g, vs, q, rr⟩ := k
            exact ⟨a, rfl, ⟨_, SqL.of q⟩, hR _ _ _ st (wk_lstO q rr n)⟩
        | scr zs =>
          cases ey
          refine (pi_list he).run pins s σ H R I ⟨G, ε, r, ε1, rel, e0, fun v H' G' st k => ?_⟩
          rcases rr_read st.rel ed k with k | ⟨a, _, k, _⟩
          · cases k with
            | scr q => exact ⟨_, rfl, ⟨_, hK ▸ sql_mono st.rel.sub q⟩, hR _ _ _ st (wk_lstG hK q (Reps.ints _ _))⟩
          · exact k.2.elim
        | str z =>
          unfold walkV at ey
          simp only at ey
          split at ey
          · cases ey
            refine (pi_str he).run pins s σ H R I ⟨G, ε, r, ε1, rel, e0, fun v H' G' st k => ?_⟩
            rcases rr_read st.rel ed k with k | ⟨a, _, k, _⟩
            · cases k with
              | str q => exact ⟨_, rfl, hR _ _ _ st wk_str⟩
            · exact k.2.elim
          · cases ey
        | _ => cases ey
      · cases hm
    · cases hm
  · cases hm
theorem inR_b {i : Int} (h : inR i = true) : -(2 ^ 62) ≤ i ∧ i < 2 ^ 62 := by
  unfold inR at h
  simp only [Bool.and_eq_true, decide_eq_true_eq] at h
  omega
theorem tIv_of {m : Env → Option (RV × Env)} {i : Int} {Q : VK} (rel : Rel W ε σ H G) (e : ivR (m ε) = some (i, ε1)) (hQ : ∀ H' G', Stp W ε σ H G ε1 H' G' → Q (.int i) H') : tM W m σ H Q :=
  tM_I ⟨G, ε, i, ε1, rel, e, hQ⟩
theorem pi_rng1 (hg : Gl X "range") (hm : X.mg "range" = none) {tg a : Expr} {x : E} {p pos : Pos} (ha : PE X a (tM W (evE D F x))) (hs : starEach [a] X.env = [(false, eval a X.env)]) : PI X tg (.Call (.Name "range" p) [a] [] pos) (tIt W (evI D F (.rng1 x))) := by
  refine PI.imp (pi_range1 hg hm (pa_cons ha pa_nil hs) hs) fun σ H R h => ?_
  obtain ⟨G, ε, r, xs, ε1, rel, hm, hR⟩ := h
  unfold evI at hm
  split at hm
  · rename_i i ε0 e0
    split at hm
    · rename_i hi
      cases hm
      refine tIv_of rel e0 fun H' G' st => ?_
      obtain ⟨b1, b2⟩ := inR_b hi
      exact ⟨i, rfl, b1, b2, hR _ _ _ st (wk_range (by simp))⟩
    · cases hm
  · cases hm
theorem pi_rng2 (hg : Gl X "range") (hm : X.mg "range" = none) {tg a b : Expr} {x y : E} {p pos : Pos} (ha : PE X a (tM W (evE D F x))) (hb : PE X b (tM W (evE D F y))) (hs : starEach [a, b] X.env = [(false, eval a X.env), (false, eval b X.env)]) (hs2 : starEach [b] X.env = [(false, eval b X.env)]) :
    PI X tg (.Call (.Name "range" p) [a, b] [] pos) (tIt W (evI D F (.rng2 x y))) := by
  refine PI.imp (pi_range2 hg hm (pa_cons ha (pa_cons hb pa_nil hs2) (by rw [hs, hs2])) hs hs2) fun σ H R h => ?_
  obtain ⟨G, ε, r, xs, ε1, rel, hm, hR⟩ := h
  unfold evI at hm
  split at hm
  · rename_i i ε0 e0
    split at hm
    · rename_i j ε2 e2
      split at hm
      · rename_i hij
        cases hm
        simp only [Bool.and_eq_true] at hij
        refine tIv_of rel e0 fun H' G' st => ?_
        refine tIv_of st.rel e2 fun H2 G2 st2 => ?_
        exact ⟨i, j, rfl, ⟨(inR_b hij.1).1, (inR_b hij.1).2, (inR_b hij.2).1, (inR_b hij.2).2⟩, hR _ _ _ (st.trans st2) (wk_range rfl)⟩
      · cases hm
    · cases hm
  · cases hm
theorem itemsOf_rep {d : Val} {v : V} {xs : List Val} (e : itemsOf d = some xs) (k : Rep W G d v) : ∃ a vs, v = .ref a ∧ ((d = .tup xs ∧ SqT W.K G a vs) ∨ (d = .lst xs ∧ SqL W.K G a vs)) ∧ Reps W G xs vs := by
  cases k <;> try (cases e; done)
  · cases e; exact ⟨_, _, rfl, .inl ⟨rfl, by assumption⟩, by assumption⟩
  · rename_i q r
    cases e; exact ⟨_, _, rfl, .inr ⟨rfl, SqL.of q⟩, r⟩
theorem tV_of {m : Env → Option (RV × Env)} {d : Val} {Q : VK} (rel : Rel W ε σ H G) (e : vlR (m ε) = some (d, ε1)) (hQ : ∀ v H' G', Stp W ε σ H G ε1 H' G' → Rep W G' d v → Q v H') : tM W m σ H Q :=
  tM_V ⟨G, ε, d, ε1, rel, e, hQ⟩
theorem shut_v {d : Val} {ε : Env} : shut (.v d) ε = ε := rfl
theorem pi_enumE (hK : X.K = W.K) (hg : Gl X "enumerate") (hm : X.mg "enumerate" = none) {a : Expr} {x : E} {p pos tpos : Pos} {elts : List Expr} {kk : Nat} (ha : PE X a (tM W (evE D F x))) (hs : starEach [a] X.env = (false, eval a X.env) :: starEach [] X.env) : PI X (.Tuple elts kk tpos) (.Call (.Name "enumerate" p) [a] [] pos) (tIt W (evI D F (.enum x))) := by
  refine PI.imp (pi_enumA hg hm (pa_cons ha pa_nil hs) hs) fun σ H R h => ?_
  obtain ⟨G, ε, r, xs, ε1, rel, hm, hR⟩ := h
  unfold evI at hm
  split at hm
  · rename_i d ε0 e0
    split at hm
    · rename_i ys ey
      cases hm
      refine tV_of rel e0 fun v H' G' st k => ?_
      obtain ⟨a, vs, rfl, q, rr⟩ := itemsOf_rep ey k
      rcases q with ⟨_, q⟩ | ⟨_, q⟩
      · exact ⟨a, vs, rfl, .inr ⟨hK ▸ sqt_mono st.rel.sub q, hR _ _ _ st (wk_enumT hK q rr)⟩⟩
      · exact ⟨a, vs, rfl, .inl ⟨hK ▸ sql_mono st.rel.sub q, hR _ _ _ st (wk_enumL hK q rr)⟩⟩
    · cases hm
  · cases hm
theorem pi_zipE (hK : X.K = W.K) (hg : Gl X "zip") (hm : X.mg "zip" = none) {a b : Expr} {x y : E} {p pos tpos : Pos} {elts : List Expr} {kk : Nat} (ha : PE X a (tM W (evE D F x))) (hb : PE X b (tM W (evE D F y)))
    (hs : starEach [a, b] X.env = (false, eval a X.env) :: starEach [b] X.env) (hs2 : starEach [b] X.env = (false, eval b X.env) :: starEach [] X.env) (hpl : (backTo pos (starEach [b] X.env)).any (·.1) = false) :
    PI X (.Tuple elts kk tpos) (.Call (.Name "zip" p) [a, b] [] pos) (tIt W (evI D F (.zip x y))) := by
  refine PI.imp (pi_zipA hg hm (pa_cons ha (pa_cons hb pa_nil hs2) hs) hs hpl) fun σ H R h => ?_
  obtain ⟨G, ε, r, xs, ε1, rel, hm, hR⟩ := h
  unfold evI at hm
  split at hm
  · rename_i d ε0 e0
    split at hm
    · rename_i d2 ε2 e2
      split at hm
      · rename_i zs ez
        cases hm
        refine tV_of rel e0 fun v H' G' st k => ?_
        refine tV_of st.rel e2 fun v2 H2 G2 st2 k2 => ?_
        have k := k.mono st2.grow
        have sb := st2.rel.sub
        cases k <;> cases k2 <;> try (cases ez; done)
        · rename_i q rr _ _ _ q2 rr2
          cases ez
          exact ⟨_, _, _, _, rfl, .inr ⟨hK ▸ sqt_mono sb q, hK ▸ sqt_mono sb q2, hR _ _ _ (st.trans st2) (wk_zipT hK q rr q2 rr2)⟩⟩
        · rename_i q rr _ _ _ q2 rr2
          cases ez
          exact ⟨_, _, _, _, rfl, .inl ⟨SqL.of (sb _ _ q), SqL.of (sb _ _ q2), hR _ _ _ (st.trans st2) (wk_zipL hK (SqL.of q) rr (SqL.of q2) rr2)⟩⟩
      · cases hm
    · cases hm
  · cases hm
end
end Eng
end
section
set_option Elab.async false
set_option linter.all false
set_option maxRecDepth 100000
set_option maxHeartbeats 4000000
/-! EM: comprehensions. -/
namespace Eng
open PySem PySem.Spec PyProof.Rows L2 RZ
section
variable {W : Wr} {ε ε' ε0 ε1 ε2 : Env} {σ σ' σ0 : L2.St} {H G H' G' H1 G1 H2 G2 : Hp}
/-- the state ahead of a turn: εs the slots ahead of the block, εi those behind the turns so far -/
structure LcS (W : Wr) (own : List Nat) (εs εi : Env) (σ : L2.St) (H1 G1 H G : Hp) (D : Addr) (o : HO) : Prop where
  stp : Stp W (wipeE εs own) (wipe σ own) H1 G1 (wipeE εi own) H G
  at_ : H D = some o
  no : G D = none
  len : εi.length = εs.length
theorem LcS.nOA {own : List Nat} {εs εi : Env} {D : Addr} {o : HO} (l : LcS W own εs εi σ H1 G1 H G D o) (r : Rel W εs σ H1 G1) (hD : H1 D = none) : ¬ OA (wipeE εi own) (wipe σ own) D := fun z => by
  obtain ⟨o, e⟩ := (blk_in r own).there (l.stp.oa D z)
  rw [hD] at e; cases e
/-- the targets are stored -/
theorem LcS.tg {own is : List Nat} {εs εi : Env} {D : Addr} {o : HO} (l : LcS W own εs εi σ H1 G1 H G D o) (hi : ∀ j ∈ is, j ∈ own) {ε' : Env} {σ' : L2.St} (rel : Rel W ε' σ' H G) (t : TgC (wipeE εi own) (wipe σ own) is ε' σ') :
    wipeE ε' own = wipeE εi own ∧ wipe σ' own = wipe σ own ∧ (∀ j ∈ own, ¬ OwnS ε' j) ∧ ε'.length = εs.length := by
  have l1 : ε'.length = εi.length := by
    rw [rel.len, t.len, wipe_length, ← wipe_length σ own, ← l.stp.rel.len, wipeE_length]
  refine ⟨?_, ?_, fun j hj ⟨d, hd⟩ => ?_, l1.trans l.len⟩
  · refine (wipeE_same l1 fun j hj => ?_)
    rw [(t.same j fun z => hj (hi j z)).1, wipeE_get, if_neg (by rintro ⟨z, _⟩; exact hj z)]
  · refine (wipe_same (t.len.trans (wipe_length _ _)) fun j hj => ?_)
    rw [(t.same j fun z => hj (hi j z)).2, wipe_get, if_neg (by rintro ⟨z, _⟩; exact hj z)]
  · by_cases hm : j ∈ is
    · obtain ⟨x, hx⟩ := (t.set j hm).1
      rw [hx] at hd
      rcases hd with hd | hd <;> cases hd
    · rw [(t.same j hm).1, wipeE_get] at hd
      by_cases q : j < εi.length
      · rw [if_pos ⟨hj, q⟩] at hd
        rcases hd with hd | hd <;> cases hd
      · rw [if_neg (by rintro ⟨_, z⟩; exact q z), List.getElem?_eq_none (by omega)] at hd
        rcases hd with hd | hd <;> cases hd
theorem Stp.length (s : Stp W ε σ H G ε' H' G') (r : Rel W ε σ H G) : ε'.length = ε.length := by rw [s.rel.len, r.len]
/-- behind a turn -/
theorem LcS.go {own is : List Nat} {εs εi : Env} {D : Addr} {o : HO} (l : LcS W own εs εi σ H1 G1 H G D o) (r : Rel W εs σ H1 G1) (hD : H1 D = none) (hi : ∀ j ∈ is, j ∈ own) {ε' : Env} {σ' : L2.St} (rel : Rel W ε' σ' H G) (t : TgC (wipeE εi own) (wipe σ own) is ε' σ')
    {ε2 : Env} {H2 G2 : Hp} (s : Stp W ε' σ' H G ε2 H2 G2) : LcS W own εs ε2 σ H1 G1 H2 G2 D o := by
  obtain ⟨h1, h2, h3, h4⟩ := l.tg hi rel t
  have s' := s.wiped (own := own) h3
  rw [h1, h2] at s'
  have n := l.nOA r hD
  exact ⟨l.stp.trans s', s'.keep D o l.at_ n, (s'.newG D o l.at_ n).trans l.no, (s.length rel).trans h4⟩
/-- the new list (or dict) is written -/
theorem LcS.wr {own : List Nat} {εs εi : Env} {D : Addr} {o o' : HO} (l : LcS W own εs εi σ H1 G1 H G D o) (r : Rel W εs σ H1 G1) (hD : H1 D = none) : LcS W own εs εi σ H1 G1 (upd H D o') G D o' :=
  ⟨l.stp.wr hD l.no (l.nOA r hD), upd_same, l.no, l.len⟩
/-- the block's end -/
theorem LcS.fin {own : List Nat} {ε1 εi : Env} {rr : RV} {D : Addr} {o : HO} {d : Val} (s1 : Stp W ε σ H G ε1 H1 G1) (hD : H1 D = none) (l : LcS W own (shut rr ε1) εi σ H1 G1 H2 G2 D o) (k : (∃ ds vs, d = .lst ds ∧ o = .lst vs ∧ Reps W G2 ds vs) ∨ ∃ ds vs, d = .dct ds ∧ o = .dK vs ∧ RepK W G2 ds vs) :
    Stp W ε σ H G (reopen rr ε1 (restE (shut rr ε1) εi own)) H2 G2 ∧ RR W H (reopen rr ε1 (restE (shut rr ε1) εi own)) σ H2 G2 (.o d) (.ref D) := by
  have a1 := blk_out (shut_rel s1.rel) l.len l.stp
  have a2 := reopen_stp s1.rel (by rw [restE_length, l.len, shut_length]) a1
  refine ⟨s1.trans a2, D, rfl, ⟨l.no, ?_⟩, fun z => ?_, s1.fresh hD⟩
  · rcases k with ⟨ds, vs, rfl, rfl, k⟩ | ⟨ds, vs, rfl, rfl, k⟩
    · exact ⟨vs, l.at_, k⟩
    · exact ⟨vs, l.at_, k⟩
  · obtain ⟨u, e⟩ := s1.rel.there (a2.oa D z)
    rw [hD] at e; cases e
/-- the iterator goes on being what it is -/
theorem LcS.it {own : List Nat} {εs εi : Env} {D : Addr} {o : HO} {J : L2.It} {A : List Addr} {al : Hp → Hp → Prop} {xs : List Val} (l : LcS W own εs εi σ H1 G1 H G D o) (h : al H1 G1) (w : WJ W J A al xs) (hA : ∀ a ∈ A, (∃ o, H1 a = some o) ∧ ¬ OA εs σ a) (r : Rel W εs σ H1 G1) : al H G := by
  refine w.kept H1 G1 H G h l.stp.grow l.stp.rel.sub fun a ha o e => l.stp.keep a o e fun z => (hA a ha).2 ?_
  obtain ⟨j, ⟨d, hd⟩, hs⟩ := z
  rw [wipeE_get] at hd
  by_cases q : j ∈ own ∧ j < εs.length
  · rw [if_pos q] at hd; rcases hd with hd | hd <;> cases hd
  · rw [if_neg q] at hd
    refine ⟨j, ⟨d, hd⟩, ?_⟩
    rw [wipe_get] at hs
    by_cases q2 : j ∈ own ∧ j < σ.length
    · rw [if_pos q2] at hs; cases hs
    · rw [if_neg q2] at hs; exact hs
variable {D : Tbl} {F : FT}
theorem cap_size : cap ≤ sizeLine := by show cap ≤ _; decide
theorem lc_t {tg own : List Nat} {it : It} {ifs : Es} {elt : E} {Q : VK} (hi : ∀ j ∈ tg, j ∈ own) (h : tM W (evE D F (.lc elt tg it ifs own)) σ H Q) :
    tLc (tIt W (evI D F it)) (gN W tg) (tTr W (evTs D F ifs)) (tV W fun ε => vlR (evE D F elt ε)) own σ H Q := by
  obtain ⟨G, ε, r, ε', rel, hm, hQ⟩ := h
  unfold evE at hm
  split at hm
  · cases hm
  · rename_i rr xs ε1 e1
    split at hm
    · rename_i ys ε2 e2
      cases hm
      refine ⟨G, ε, rr, xs, ε1, rel, e1, fun J H1 G1 s1 wk C hC => ?_⟩
      obtain ⟨A, al, al0, w, hA⟩ := wk
      have rs : Rel W (shut rr ε1) σ H1 G1 := shut_rel s1.rel
      refine ⟨fun i m H => ∃ εi G acc vs, m = xs.length - i ∧ i ≤ xs.length ∧ lcLoop tg own (evTs D F ifs) (fun ε => vlR (evE D F elt ε)) (xs.drop i) εi acc = some (ys, ε2) ∧ LcS W own (shut rr ε1) εi σ H1 G1 H G C (.lst vs) ∧ al H G ∧ Reps W G acc vs, ⟨xs.length, shut rr ε1, G1, [], [], rfl, Nat.zero_le _, e2, ?_, ?_, .nil⟩, ?_⟩
      · have z := ast_own (o := .lst []) rs.sub hC
        exact ⟨(z.stp (blk_in rs own)), upd_same, sub_none rs.sub hC, rfl⟩
      · refine w.kept _ _ _ _ al0 (Sub.refl _) (rs.sub.trans (sub_upd hC)) fun a ha o e => ?_
        rw [upd_ne (ne_of_none e hC)]; exact e
      · rintro i m H ⟨εi, G, acc, vs, rfl, hle, hl, ls, hal, hr⟩
        by_cases hlt : i < xs.length
        · rw [List.drop_eq_getElem_cons hlt] at hl
          unfold lcLoop at hl
          split at hl
          · cases hl
          · rename_i εt et
            refine .inr ⟨w.go i H G hal ls.stp.rel.sub hlt, fun H' => ∃ εi G acc vs, lcLoop tg own (evTs D F ifs) (fun ε => vlR (evE D F elt ε)) (xs.drop (i + 1)) εi acc = some (ys, ε2) ∧ LcS W own (shut rr ε1) εi σ H1 G1 H' G C (.lst vs) ∧ al H' G ∧ Reps W G acc vs, fun H' ⟨εi, G, acc, vs, a1, a2, a3, a4⟩ => ⟨xs.length - (i + 1), by omega, εi, G, acc, vs, rfl, hlt, a1, a2, a3, a4⟩, fun x H' y => ?_⟩
            obtain ⟨G', a, k⟩ := w.yld i H G x H' xs[i] hal ls.stp.rel.sub y (by simp [hlt])
            have n := ls.nOA rs hC
            have st := ls.stp.trans (a.stp ls.stp.rel)
            have ls' : LcS W own (shut rr ε1) εi σ H1 G1 H' G' C (.lst vs) := ⟨st, a.keep _ _ ls.at_, (a.newG _ _ ls.at_).trans ls.no, ls.len⟩
            have hr' := hr.mono a.grow
            refine ⟨xs[i], wipeE εi own, εt, G', st.rel, k, et, fun σ2 rel2 t => ?_⟩
            refine ⟨(ls'.tg hi rel2 t).2.1, ?_⟩
            split at hl
            · cases hl
            · rename_i ε3 e3
              refine ⟨G', εt, false, ε3, rel2, e3, fun H3 G3 st3 => ?_⟩
              simp only [Bool.false_eq_true, if_false]
              have l3 := ls'.go rs hC hi rel2 t st3
              exact ⟨ε3, G3, acc, vs, hl, l3, l3.it al0 w hA rs, hr'.mono st3.grow⟩
            · rename_i ε3 e3
              refine ⟨G', εt, true, ε3, rel2, e3, fun H3 G3 st3 => ?_⟩
              simp only [if_true]
              split at hl
              · cases hl
              · rename_i y ε4 e4
                refine ⟨G3, ε3, y, ε4, st3.rel, e4, fun v H4 G4 st4 k4 => ?_⟩
                have l4 := ls'.go rs hC hi rel2 t (st3.trans st4)
                split at hl
                · rename_i hz
                  have hr4 := hr'.mono (st3.trans st4).grow
                  refine ⟨vs, l4.at_, by rw [← hr.length]; exact Nat.lt_of_lt_of_le hz cap_size, ε4, G4, acc ++ [y], vs ++ [v], hl, l4.wr rs hC, (l4.wr rs hC).it al0 w hA rs, hr4.append (.cons k4 .nil)⟩
                · cases hl
        · have hie : i = xs.length := by omega
          subst hie
          rw [List.drop_length] at hl
          cases hl
          refine .inl ⟨w.stop _ H G hal ls.stp.rel.sub (Nat.le_refl _), ?_⟩
          obtain ⟨b1, b2⟩ := ls.fin s1 hC (.inl ⟨ys, vs, rfl, rfl, hr⟩)
          exact hQ _ _ _ b1 b2
    · cases hm
/-- key and value of a dict comprehension -/
theorem dc_t {tg own : List Nat} {it : It} {ifs : Es} {ek ev : E} {Q : VK} (hi : ∀ j ∈ tg, j ∈ own) (h : tM W (evE D F (.dc ek ev tg it ifs own)) σ H Q) :
    tDc (tIt W (evI D F it)) (gN W tg) (tTr W (evTs D F ifs)) (tV W fun ε => vlR (evE D F ek ε)) (tV W fun ε => vlR (evE D F ev ε)) own σ H Q := by
  obtain ⟨G, ε, r, ε', rel, hm, hQ⟩ := h
  unfold evE at hm
  split at hm
  · cases hm
  · rename_i rr xs ε1 e1
    split at hm
    · rename_i ys ε2 e2
      cases hm
      refine ⟨G, ε, rr, xs, ε1, rel, e1, fun J H1 G1 s1 wk C hC => ?_⟩
      obtain ⟨A, al, al0, w, hA⟩ := wk
      have rs : Rel W (shut rr ε1) σ H1 G1 := shut_rel s1.rel
      generalize hkv : (fun ε => match vlR (evE D F ek ε) with
        | some (d, ε1) => match keyOf d with
          | some k => match vlR (evE D F ev ε1) with
            | some (x, ε2) => some ((k, x), ε2)
            | none => none
          | none => none
        | none => none) = kv at e2
      refine ⟨fun i m H => ∃ εi G acc vs, m = xs.length - i ∧ i ≤ xs.length ∧ dcLoop tg own (evTs D F ifs) kv (xs.drop i) εi acc = some (ys, ε2) ∧ LcS W own (shut rr ε1) εi σ H1 G1 H G C (.dK vs) ∧ al H G ∧ RepK W G acc vs, ⟨xs.length, shut rr ε1, G1, [], [], rfl, Nat.zero_le _, e2, ?_, ?_, .nil⟩, ?_⟩
      · have z := ast_own (o := .dK []) rs.sub hC
        exact ⟨(z.stp (blk_in rs own)), upd_same, sub_none rs.sub hC, rfl⟩
      · refine w.kept _ _ _ _ al0 (Sub.refl _) (rs.sub.trans (sub_upd hC)) fun a ha o e => ?_
        rw [upd_ne (ne_of_none e hC)]; exact e
      · rintro i m H ⟨εi, G, acc, vs, rfl, hle, hl, ls, hal, hr⟩
        by_cases hlt : i < xs.length
        · rw [List.drop_eq_getElem_cons hlt] at hl
          unfold dcLoop at hl
          split at hl
          · cases hl
          · rename_i εt et
            refine .inr ⟨w.go i H G hal ls.stp.rel.sub hlt, fun H' => ∃ εi G acc vs, dcLoop tg own (evTs D F ifs) kv (xs.drop (i + 1)) εi acc = some (ys, ε2) ∧ LcS W own (shut rr ε1) εi σ H1 G1 H' G C (.dK vs) ∧ al H' G ∧ RepK W G acc vs, fun H' ⟨εi, G, acc, vs, a1, a2, a3, a4⟩ => ⟨xs.length - (i + 1), by omega, εi, G, acc, vs, rfl, hlt, a1, a2, a3, a4⟩, fun x H' y => ?_⟩
            obtain ⟨G', a, k⟩ := w.yld i H G x H' xs[i] hal ls.stp.rel.sub y (by simp [hlt])
            have n := ls.nOA rs hC
            have st := ls.stp.trans (a.stp ls.stp.rel)
            have ls' : LcS W own (shut rr ε1) εi σ H1 G1 H' G' C (.dK vs) := ⟨st, a.keep _ _ ls.at_, (a.newG _ _ ls.at_).trans ls.no, ls.len⟩
            have hr' := hr.mono a.grow
            refine ⟨xs[i], wipeE εi own, εt, G', st.rel, k, et, fun σ2 rel2 t => ?_⟩
            refine ⟨(ls'.tg hi rel2 t).2.1, ?_⟩
            split at hl
            · cases hl
            · rename_i ε3 e3
              refine ⟨G', εt, false, ε3, rel2, e3, fun H3 G3 st3 => ?_⟩
              simp only [Bool.false_eq_true, if_false]
              have l3 := ls'.go rs hC hi rel2 t st3
              exact ⟨ε3, G3, acc, vs, hl, l3, l3.it al0 w hA rs, hr'.mono st3.grow⟩
            · rename_i ε3 e3
              refine ⟨G', εt, true, ε3, rel2, e3, fun H3 G3 st3 => ?_⟩
              simp only [if_true]
              split at hl
              · cases hl
              · rename_i y ε4 e4
                rw [← hkv] at e4
                simp only at e4
                split at e4
                · rename_i d εk ek'
                  split at e4
                  · rename_i k ekk
                    split at e4
                    · rename_i x εv ev'
                      cases e4
                      refine ⟨G3, ε3, d, εk, st3.rel, ek', fun v H4 G4 st4 k4 => ?_⟩
                      refine ⟨G4, εk, x, ε4, st4.rel, ev', fun v2 H5 G5 st5 k5 => ?_⟩
                      have l4 := ls'.go rs hC hi rel2 t ((st3.trans st4).trans st5)
                      split at hl
                      · rename_i hz
                        have hr4 := hr'.mono ((st3.trans st4).trans st5).grow
                        have ev2 : v = kV k := by
                          cases k4 <;> cases ekk <;> rfl
                        refine ⟨vs, k, ev2, l4.at_, by rw [← hr.length]; exact Nat.lt_of_lt_of_le hz cap_size, ε4, G5, dput acc k x, putK vs k v2, hl, l4.wr rs hC, (l4.wr rs hC).it al0 w hA rs, hr4.put k5⟩
                      · cases hl
                    · cases e4
                  · cases e4
                · cases e4
        · have hie : i = xs.length := by omega
          subst hie
          rw [List.drop_length] at hl
          cases hl
          refine .inl ⟨w.stop _ H G hal ls.stp.rel.sub (Nat.le_refl _), ?_⟩
          obtain ⟨b1, b2⟩ := ls.fin s1 hC (.inr ⟨ys, vs, rfl, rfl, hr⟩)
          exact hQ _ _ _ b1 b2
    · cases hm
end
end Eng
end
section
set_option Elab.async false
set_option linter.all false
set_option maxRecDepth 100000
set_option maxHeartbeats 4000000
/-! EN: the forms of expressions. -/
namespace Eng
open PySem PySem.Spec PyProof.Rows L2 RZ
theorem _root_.L2.PE.imp {X : Cx} {e : Expr} {t t' : TE} (h : PE X e t) (k : ∀ σ H Q, t' σ H Q → t σ H Q) : PE X e t' := Eng.PE.imp h k
theorem _root_.L2.PT.imp {X : Cx} {e : Expr} {t t' : TT} (h : PT X e t) (k : ∀ σ H Q, t' σ H Q → t σ H Q) : PT X e t' := Eng.PT.imp h k
theorem _root_.L2.PA.imp {X : Cx} {es : List Expr} {t t' : TA} (h : PA X es t) (k : ∀ σ H Q, t' σ H Q → t σ H Q) : PA X es t' := ⟨fun pos pins s σ H Q I q => h.run pos pins s σ H Q I (k _ _ _ q)⟩
theorem _root_.L2.PTs.imp {X : Cx} {es : List Expr} {t t' : TT} (h : PTs X es t) (k : ∀ σ H Q, t' σ H Q → t σ H Q) : PTs X es t' := ⟨fun pins s σ H Q I q => h.run pins s σ H Q I (k _ _ _ q)⟩
theorem RRs.old {W : Wr} {ε ε' ε0 : Env} {σ : L2.St} {H G H1 G1 H2 G2 : Hp} (s : Stp W ε σ H G ε0 H1 G1) : ∀ {rs : List RV} {vs : List V}, RRs W H1 ε' σ H2 G2 rs vs → RRs W H ε' σ H2 G2 rs vs
  | _, _, .nil => .nil
  | _, _, .cons (r := r) q n rr => by
    refine .cons ?_ n (RRs.old s rr)
    cases r with
    | v d => exact q
    | o d =>
      obtain ⟨a, e, o, m, f⟩ := q
      exact ⟨a, e, o, m, s.fresh f⟩
    | b i => exact q
theorem RRs.stp {W : Wr} {ε ε' : Env} {σ : L2.St} {H G H0 H1 G1 : Hp} (s : Stp W ε σ H G ε' H1 G1) : ∀ {rs : List RV} {vs : List V}, RRs W H0 ε σ H G rs vs → RRs W H0 ε' σ H1 G1 rs vs
  | _, _, .nil => .nil
  | _, _, .cons q n rr => .cons (q.step s) n (RRs.stp s rr)
section
variable {W : Wr} {X : Cx} {D : Tbl} {F : FT} {ε ε' ε0 ε1 ε2 : Env} {σ σ' σ0 : L2.St} {H G H' G' H1 G1 H2 G2 : Hp}
/-- what is meant by an expression of the little language -/
structure Ok (W : Wr) (D : Tbl) (F : FT) (X : Cx) (e : Expr) (x : E) : Prop where
  pe : PE X e (tM W (evE D F x))
  pt : PT X e (tTr W fun ε => tsR (evE D F x ε))
theorem rdb_truV (hK : X.K = W.K) (sb : Sub G H) {d : Val} {v : V} {k : Bool} (r : Rdb W H G d v) (h : tru d = some k) : TruV X.K v H k := by
  cases d with
  | non => cases h; rw [rdb_non r]; exact rfl
  | bl b => cases h; rw [rdb_bl r]; exact rfl
  | int i => cases h; rw [rdb_int r]; exact rfl
  | str s =>
    rw [rdb_str r]
    unfold tru at h
    simp only at h
    split at h
    · rename_i hz
      cases h
      exact ⟨Nat.le_trans hz cap_le, rfl⟩
    · cases h
  | tup xs =>
    cases h
    obtain ⟨a, vs, rfl, _, q, rr⟩ := rdb_tup sb r
    exact .inr (.inl ⟨vs, hK ▸ q, by rw [rr.isEmpty]⟩)
  | lst xs =>
    cases h
    obtain ⟨a, vs, rfl, q, rr⟩ := rdb_lst sb r
    exact .inl ⟨vs, SqL.of q, by rw [rr.isEmpty]⟩
  | dct xs =>
    cases h
    obtain ⟨a, vs, rfl, q, rr⟩ := rdb_dct sb r
    exact .inr (.inr ⟨vs, q, by rw [rr.isEmpty]⟩)
  | _ => cases h
theorem truR_ok (hK : X.K = W.K) {H0 : Hp} {r : RV} {v : V} {k : Bool} (rel : Rel W ε σ H G) (q : RR W H0 ε σ H G r v) (h : truR r ε = some k) : TruV X.K v H k := by
  unfold truR at h
  split at h
  · rename_i d e
    exact rdb_truV hK rel.sub (look_rdb rel e q.r0) h
  · cases h
/-- the test of a value that is not specially tested -/
theorem ok_plain (hK : X.K = W.K) {e : Expr} {x : E} (h : PE X e (tM W (evE D F x))) (he : ∀ whole, isTrue e X.env whole = (do let v ← whole; standAt e.pos; holding [v] (truthy v))) : Ok W D F X e x := by
  refine ⟨h, (pt_truth h he).imp fun σ H Q q => ?_⟩
  obtain ⟨G, ε, k, ε1, rel, hm, hQ⟩ := q
  unfold tsR at hm
  dsimp only at hm
  split at hm
  · rename_i r ε0 e0
    split at hm
    · rename_i b eb
      cases hm
      exact ⟨G, ε, r, _, rel, e0, fun v H' G' s kk => ⟨k, truR_ok hK s.rel kk eb, hQ _ _ s⟩⟩
    · cases hm
  · cases hm
/-- .. of a value that is a bool, tested as it stands -/
theorem tM_tB {m : Env → Option (RV × Env)} (hb : ∀ ε r ε1, m ε = some (r, ε1) → ∃ b, r = .v (.bl b)) {Q : Bool → Hp → Prop} (q : tTr W (fun ε => tsR (m ε)) σ H Q) : tTest (tM W m) σ H Q := by
  obtain ⟨G, ε, k, ε1, rel, hm, hQ⟩ := q
  unfold tsR at hm
  dsimp only at hm
  split at hm
  · rename_i r ε0 e0
    split at hm
    · rename_i b eb
      cases hm
      obtain ⟨c, rfl⟩ := hb _ _ _ e0
      cases eb
      refine ⟨G, ε, _, _, rel, e0, fun v H' G' s k => ⟨_, ?_, hQ _ _ s⟩⟩
      cases k; rfl
    · cases hm
  · cases hm

/-! ### small ones -/
theorem e_c {e : Expr} {d : Val} {v : V} (h : PE X e (tC v)) (k : ∀ G, Rep W G d v) : PE X e (tM W (evE D F (.lit d))) := h.imp fun σ H Q q => by
  obtain ⟨G, ε, r, ε1, rel, hm, hQ⟩ := q
  cases hm
  exact hQ _ _ _ (.refl rel) (k _)
theorem e_var {e : Expr} {i : Nat} (h : PE X e (tVar i)) : PE X e (tM W (evE D F (.var i))) := h.imp fun σ H Q q => by
  obtain ⟨G, ε, r, ε1, rel, hm, hQ⟩ := q
  unfold evE at hm
  split at hm
  · rename_i d e
    cases hm
    rcases look_b e with e | e | e
    · obtain ⟨v, h1, h2⟩ := rel.val i d e
      exact ⟨v, h1, hQ _ _ _ (.refl rel) h1⟩
    · obtain ⟨a, h1, h2⟩ := rel.own i d (.inl e)
      exact ⟨_, h1, hQ _ _ _ (.refl rel) h1⟩
    · obtain ⟨a, h1, h2⟩ := rel.own i d (.inr e)
      exact ⟨_, h1, hQ _ _ _ (.refl rel) h1⟩
  · cases hm
/-! ### rows of expressions -/
theorem fs_nil : PA X [] (tFs W (evF D F .nil)) := pa_nil.imp fun σ H Q q => by
  obtain ⟨G, ε, r, ε1, rel, hm, hQ⟩ := q
  cases hm
  exact hQ _ _ _ (.refl rel) .nil
theorem fs_cons {e : Expr} {es : List Expr} {x : E} {xs : Es} (he : PE X e (tM W (evE D F x))) (hs : PA X es (tFs W (evF D F xs))) (st : starEach (e :: es) X.env = (false, eval e X.env) :: starEach es X.env) : PA X (e :: es) (tFs W (evF D F (.cons x xs))) := (pa_cons he hs st).imp fun σ H Q q => by
  obtain ⟨G, ε, r, ε1, rel, hm, hQ⟩ := q
  unfold evF at hm
  split at hm
  · rename_i d ε0 e0
    split at hm
    · rename_i ds ε2 e2
      cases hm
      refine tV_of rel e0 fun v H' G' s k => ⟨G', _, ds, _, s.rel, e2, fun vs H2 G2 s2 k2 => hQ _ _ _ (s.trans s2) (.cons (k.mono s2.grow) k2)⟩
    · cases hm
  · cases hm
theorem as_nil : PA X [] (tAs W (evA D F .nil)) := pa_nil.imp fun σ H Q q => by
  obtain ⟨G, ε, r, ε1, rel, hm, hQ⟩ := q
  cases hm
  exact hQ _ _ _ (.refl rel) .nil
theorem as_cons {e : Expr} {es : List Expr} {x : E} {xs : Es} (he : PE X e (tM W (evE D F x))) (hs : PA X es (tAs W (evA D F xs))) (st : starEach (e :: es) X.env = (false, eval e X.env) :: starEach es X.env) : PA X (e :: es) (tAs W (evA D F (.cons x xs))) := (pa_cons he hs st).imp fun σ H Q q => by
  obtain ⟨G, ε, r, ε1, rel, hm, hQ⟩ := q
  unfold evA at hm
  split at hm
  · rename_i d ε0 e0
    split at hm
    · rename_i ds ε2 e2
      cases hm
      refine ⟨G, ε, d, ε0, rel, e0, fun v H' G' s k => ⟨G', _, ds, _, s.rel, e2, fun vs H2 G2 s2 k2 => hQ _ _ _ (s.trans s2) (.cons (k.step s2) ?_ (k2.old s))⟩⟩
      rintro d' rfl i d2 e1 ev
      obtain ⟨a, rfl, o, _, _⟩ := k
      obtain ⟨w, h1, h2⟩ := k2.get e1
      rw [ev] at h1; cases h1
      obtain ⟨b, h3, _, _, h4⟩ := h2
      cases h3
      obtain ⟨u, hu⟩ := o.there
      rw [h4] at hu; cases hu
    · cases hm
  · cases hm
/-! ### displays -/
theorem len_le {ds : List Val} {vs : List V} (r : Reps W G ds vs) (h : ds.length ≤ cap) : vs.length ≤ sizeLine := by rw [← r.length]; exact Nat.le_trans h cap_le
def shortEs : Nat → Es → Bool
  | _, .nil => true
  | 0, .cons _ _ => false
  | n + 1, .cons _ es => shortEs n es
theorem evF_len : ∀ {n : Nat} {es : Es} {ε ε1 : Env} {ds : List Val}, shortEs n es = true → evF D F es ε = some (ds, ε1) → ds.length ≤ n
  | n, .nil, ε, ε1, ds, _, e => by unfold evF at e; cases e; exact Nat.zero_le _
  | 0, .cons _ _, _, _, _, h, _ => by cases h
  | n + 1, .cons x es, ε, ε1, ds, h, e => by
    unfold evF at e
    split at e
    · split at e
      · rename_i e2
        cases e
        have := evF_len (n := n) h e2
        simp; omega
      · cases e
    · cases e
theorem e_tup {es : List Expr} {xs : Es} {k : Nat} {pos : Pos} (h : PA X es (tFs W (evF D F xs))) (hz : shortEs cap xs = true) : PE X (.Tuple es k pos) (tM W (evE D F (.tup xs))) := (pe_tup h).imp fun σ H Q q => by
  obtain ⟨G, ε, r, ε1, rel, hm, hQ⟩ := q
  unfold evE at hm
  split at hm
  · rename_i ds ε0 e0
    cases hm
    refine ⟨G, ε, ds, _, rel, e0, fun vs H' G' s k => ⟨len_le k (evF_len hz e0), fun p hp => ?_⟩⟩
    obtain ⟨a, b⟩ := AR.fin0 s (AR.newTup (W := W) s.rel.sub hp k)
    exact hQ _ _ _ a b
  · cases hm
theorem e_lst {es : List Expr} {xs : Es} {pos : Pos} (h : PA X es (tFs W (evF D F xs))) (hz : shortEs cap xs = true) : PE X (.List es pos) (tM W (evE D F (.lst xs))) := (pe_lst h).imp fun σ H Q q => by
  obtain ⟨G, ε, r, ε1, rel, hm, hQ⟩ := q
  unfold evE at hm
  split at hm
  · rename_i ds ε0 e0
    cases hm
    refine ⟨G, ε, ds, _, rel, e0, fun vs H' G' s k => ⟨len_le k (evF_len hz e0), fun p hp => ?_⟩⟩
    obtain ⟨a, b⟩ := AR.fin0 s (AR.newLst (W := W) s.rel.sub hp k)
    exact hQ _ _ _ a b
  · cases hm
/-! ### operators -/
theorem two_rdb {x y : RV} {d e : Val} {v u : V} {H0 H00 : Hp} (s : Stp W ε1 σ H1 G1 ε2 H2 G2) (kx : RR W H0 ε1 σ H1 G1 x v) (ky : RR W H00 ε2 σ H2 G2 y u) (ex : look x ε2 = some d) (ey : look y ε2 = some e) : Rdb W H2 G2 d v ∧ Rdb W H2 G2 e u :=
  ⟨look_rdb s.rel ex (kx.step s).r0, look_rdb s.rel ey ky.r0⟩
theorem ofR_some {o : Option RV} {r : RV} {ε ε' : Env} (h : ofR o ε = some (r, ε')) : o = some r ∧ ε' = ε := by
  cases o with
  | none => cases h
  | some x => cases h; exact ⟨rfl, rfl⟩
theorem ofV_some {o : Option Val} {r : RV} {ε ε' : Env} (h : ofV o ε = some (r, ε')) : ∃ d, o = some d ∧ r = .v d ∧ ε' = ε := by
  cases o with
  | none => cases h
  | some x => cases h; exact ⟨_, rfl, rfl, rfl⟩
theorem ofBl_some {o : Option Bool} {r : RV} {ε ε' : Env} (h : ofBl o ε = some (r, ε')) : ∃ d, o = some d ∧ r = .v (.bl d) ∧ ε' = ε := by
  cases o with
  | none => cases h
  | some x => cases h; exact ⟨_, rfl, rfl, rfl⟩
theorem e_bin (hK : X.K = W.K) {a b : Expr} {x y : E} {op : Operator} {pos : Pos} (ha : PE X a (tM W (evE D F x))) (hb : PE X b (tM W (evE D F y))) : PE X (.BinOp a op b pos) (tM W (evE D F (.bin op x y))) := (pe_op (op_bin hK op) ha hb).imp fun σ H Q q => by
  obtain ⟨G, ε, r, ε1, rel, hm, hQ⟩ := q
  unfold evE at hm
  split at hm
  · rename_i rx εx ex
    split at hm
    · rename_i ry εy ey
      split at hm
      · rename_i d e ed ee
        obtain ⟨hm1, rfl⟩ := ofR_some hm
        refine ⟨G, ε, rx, εx, rel, ex, fun v H1 G1 s k => ⟨G1, εx, ry, _, s.rel, ey, fun u H2 G2 s2 k2 => ?_⟩⟩
        obtain ⟨h1, h2⟩ := two_rdb s2 k k2 ed ee
        refine ⟨G2, d, e, r, s2.rel.sub, h1, h2, hm1, fun w H' G' ar => ?_⟩
        obtain ⟨a, b⟩ := AR.fin0 (s.trans s2) ar
        exact hQ _ _ _ a b
      · cases hm
    · cases hm
  · cases hm
theorem e_neg {a : Expr} {x : E} {pos : Pos} (ha : PE X a (tM W (evE D F x))) : PE X (.UnaryOp .USub a pos) (tM W (evE D F (.neg x))) := (pe_un un_neg ha).imp fun σ H Q q => by
  obtain ⟨G, ε, r, ε1, rel, hm, hQ⟩ := q
  unfold evE at hm
  split at hm
  · rename_i i ε0 e0
    cases hm
    exact tIv_of rel e0 fun H' G' s => ⟨i, rfl, hQ _ _ _ s (.int _)⟩
  · cases hm
theorem e_cmp (hK : X.K = W.K) (hu : X.A.units + 64 < cLine) (KD : KdOk W X.w D.kds) {a b : Expr} {x y : E} {op : CmpOp} {pos : Pos} (ha : PE X a (tM W (evE D F x))) (hb : PE X b (tM W (evE D F y))) (hm : behindInMarks op b = false) : Ok W D F X (.Compare a [op] [b] pos) (.cmp op x y) := by
  have key : ∀ {σ : L2.St} {H : Hp} {Q : VK}, tM W (evE D F (.cmp op x y)) σ H Q → tOp (R2B W (cmpo D.kds op)) (tM W (evE D F x)) (tM W (evE D F y)) σ H Q := fun {σ H Q} q => by
    obtain ⟨G, ε, r, ε1, rel, hm, hQ⟩ := q
    unfold evE at hm
    split at hm
    · rename_i rx εx ex
      split at hm
      · rename_i ry εy ey
        split at hm
        · rename_i d e ed ee
          obtain ⟨c, hm1, rfl, rfl⟩ := ofBl_some hm
          refine ⟨G, ε, rx, εx, rel, ex, fun v H1 G1 s k => ⟨G1, εx, ry, _, s.rel, ey, fun u H2 G2 s2 k2 => ?_⟩⟩
          obtain ⟨h1, h2⟩ := two_rdb s2 k k2 ed ee
          exact ⟨G2, d, e, c, s2.rel.sub, h1, h2, hm1, hQ _ _ _ (s.trans s2) (.bl c)⟩
        · cases hm
      · cases hm
    · cases hm
  refine ⟨(pe_cmpR (op_cmpS hK hu KD op) ha hb hm).imp fun σ H Q q => key q, (pt_cmpR (op_cmpS hK hu KD op) ha hb hm).imp fun σ H Q q => key (tM_tB (fun ε r ε1 h => ?_) q)⟩
  unfold evE at h
  split at h
  · split at h
    · split at h
      · obtain ⟨c, _, e, _⟩ := ofBl_some h
        exact ⟨c, e⟩
      · cases h
    · cases h
  · cases h
theorem e_chn (hK : X.K = W.K) (hu : X.A.units + 64 < cLine) (KD : KdOk W X.w D.kds) {a b c : Expr} {x y z : E} {op op' : CmpOp} {pos : Pos} (ha : PE X a (tM W (evE D F x))) (hb : PE X b (tM W (evE D F y))) (hc : PE X c (tM W (evE D F z))) (hm : lastMarks [op, op'] [b, c] = false) : Ok W D F X (.Compare a [op, op'] [b, c] pos) (.chn op op' x y z) := by
  have key : ∀ {σ : L2.St} {H : Hp} {Q : VK}, tM W (evE D F (.chn op op' x y z)) σ H Q → tChain (R2B W (cmpo D.kds op)) (R2B W (cmpo D.kds op')) (tM W (evE D F x)) (tM W (evE D F y)) (tM W (evE D F z)) σ H Q := fun {σ H Q} q => by
    obtain ⟨G, ε, r, ε1, rel, hm, hQ⟩ := q
    unfold evE at hm
    split at hm
    · rename_i rx εx ex
      split at hm
      · rename_i ry εy ey
        split at hm
        · rename_i d e ed ee
          split at hm
          · rename_i ec
            cases hm
            refine ⟨G, ε, rx, εx, rel, ex, fun v H1 G1 s k => ⟨G1, εx, ry, _, s.rel, ey, fun u H2 G2 s2 k2 => ?_⟩⟩
            obtain ⟨h1, h2⟩ := two_rdb s2 k k2 ed ee
            exact ⟨G2, d, e, false, s2.rel.sub, h1, h2, ec, false, rfl, by simp only [Bool.false_eq_true, if_false]; exact hQ _ _ _ (s.trans s2) (.bl _)⟩
          · rename_i ec
            split at hm
            · rename_i rz εz ez
              split at hm
              · rename_i e' g ee' eg
                obtain ⟨c, hm1, rfl, rfl⟩ := ofBl_some hm
                refine ⟨G, ε, rx, εx, rel, ex, fun v H1 G1 s k => ⟨G1, εx, ry, _, s.rel, ey, fun u H2 G2 s2 k2 => ?_⟩⟩
                obtain ⟨h1, h2⟩ := two_rdb s2 k k2 ed ee
                refine ⟨G2, d, e, true, s2.rel.sub, h1, h2, ec, true, rfl, ?_⟩
                simp only [if_true]
                refine ⟨G2, εy, rz, _, s2.rel, ez, fun w H3 G3 s3 k3 => ?_⟩
                obtain ⟨h3, h4⟩ := two_rdb s3 k2 k3 ee' eg
                exact ⟨G3, e', g, c, s3.rel.sub, h3, h4, hm1, hQ _ _ _ ((s.trans s2).trans s3) (.bl c)⟩
              · cases hm
            · cases hm
          · cases hm
        · cases hm
      · cases hm
    · cases hm
  refine ⟨(pe_chain (op_cmpS hK hu KD op) (op_cmpS hK hu KD op') ha hb hc hm).imp fun σ H Q q => key q, (pt_chain (op_cmpS hK hu KD op) (op_cmpS hK hu KD op') ha hb hc hm).imp fun σ H Q q => key (tM_tB (fun ε r ε1 h => ?_) q)⟩
  unfold evE at h
  split at h
  · split at h
    · split at h
      · split at h
        · cases h; exact ⟨false, rfl⟩
        · split at h
          · split at h
            · obtain ⟨c, _, e, _⟩ := ofBl_some h
              exact ⟨c, e⟩
            · cases h
          · cases h
        · cases h
      · cases h
    · cases h
  · cases h
/-! ### and, or, not, if -/
section
variable {a b : Expr} {rest : List Expr} {ta tb : TE} {pos : Pos}
theorem pe_notT (ha : PE X a ta) : PE X (.UnaryOp .Not a pos) (fun σ H Q => ta σ H fun x H1 => ∃ k, TruV X.K x H1 k ∧ Q (.bl (!k)) H1) :=
  ⟨fun pins s σ H Q I h => UnaryOp_ (thn (ha.run pins s σ H _ I h) fun v s1 ⟨x, H1, I1, r1, k, ek, q⟩ => not_of (thn (tru_ok pins s1 σ H1 x v (fun c H2 => Q (.bl (!c)) H2) I1 r1 ⟨k, ek, q⟩) fun c s2 ⟨H2, I2, q2⟩ => ⟨.bl (!c), H2, I2, rfl, q2⟩))⟩
theorem pe_andT (ha : PE X a ta) (hb : PE X (.BoolOp .And (b :: rest) pos) tb) : PE X (.BoolOp .And (a :: b :: rest) pos) (fun σ H Q => ta σ H fun x H1 => ∃ k, TruV X.K x H1 k ∧ if k = true then tb σ H1 Q else Q x H1) := by
  refine ⟨fun pins s σ H Q I h => ?_⟩
  refine BoolOp_and (thn (ha.run pins s σ H _ I h) fun v s1 ⟨x, H1, I1, r1, k, ek, q1⟩ => thn (tru_ok pins s1 σ H1 x v (fun c H2 => c = k ∧ H2 = H1) I1 r1 ⟨k, ek, rfl, rfl⟩) fun c s2 ⟨H2, I2, e1, e2⟩ => ?_)
  subst e1 e2
  cases c with
  | true => exact hb.run pins s2 σ H2 Q I2 q1
  | false => exact ⟨x, H2, I2, r1, q1⟩
theorem pe_orT (ha : PE X a ta) (hb : PE X (.BoolOp .Or (b :: rest) pos) tb) : PE X (.BoolOp .Or (a :: b :: rest) pos) (fun σ H Q => ta σ H fun x H1 => ∃ k, TruV X.K x H1 k ∧ if k = true then Q x H1 else tb σ H1 Q) := by
  refine ⟨fun pins s σ H Q I h => ?_⟩
  refine BoolOp_or (thn (ha.run pins s σ H _ I h) fun v s1 ⟨x, H1, I1, r1, k, ek, q1⟩ => thn (tru_ok pins s1 σ H1 x v (fun c H2 => c = k ∧ H2 = H1) I1 r1 ⟨k, ek, rfl, rfl⟩) fun c s2 ⟨H2, I2, e1, e2⟩ => ?_)
  subst e1 e2
  cases c with
  | false => exact hb.run pins s2 σ H2 Q I2 q1
  | true => exact ⟨x, H2, I2, r1, q1⟩
theorem pt_ifExp {c : Expr} {tc t u : TT} (hc : PT X c tc) (ha : PT X a t) (hb : PT X b u) : PT X (.IfExp c a b pos) (fun σ H Q => tc σ H fun k H1 => if k = true then t σ H1 Q else u σ H1 Q) := by
  refine ⟨fun pins s σ H Q I h => ?_⟩
  show wpAny _ _ (do if ← isTrue c X.env (eval c X.env) then isTrue a X.env (eval a X.env) else isTrue b X.env (eval b X.env)) _ _ _
  refine wpAny_bind (thn (hc.run pins s σ H _ I h) fun k s1 ⟨H1, I1, q1⟩ => ?_)
  cases k with
  | true => exact ha.run pins s1 σ H1 Q I1 q1
  | false => exact hb.run pins s1 σ H1 Q I1 q1
end
theorem tsR_some {m : Env → Option (RV × Env)} {k : Bool} (h : tsR (m ε) = some (k, ε1)) : ∃ r, m ε = some (r, ε1) ∧ truR r ε1 = some k := by
  unfold tsR at h
  split at h
  · rename_i r ε0 e0
    split at h
    · rename_i b eb
      cases h
      exact ⟨r, e0, eb⟩
    · cases h
  · cases h
theorem tsR_of {o : Option (RV × Env)} {r : RV} {k : Bool} (e : o = some (r, ε1)) (h : truR r ε1 = some k) : tsR o = some (k, ε1) := by
  subst e
  unfold tsR
  simp only [h]
theorem tsR_bl {b : Bool} {ε : Env} : tsR (some (.v (.bl b), ε)) = some (b, ε) := rfl
theorem e_not (hK : X.K = W.K) {a : Expr} {x : E} {pos : Pos} (ha : Ok W D F X a x) : Ok W D F X (.UnaryOp .Not a pos) (.not x) := by
  refine ⟨(pe_notT ha.pe).imp fun σ H Q q => ?_, (pt_not ha.pt).imp fun σ H Q q => ?_⟩
  · obtain ⟨G, ε, r, ε1, rel, hm, hQ⟩ := q
    unfold evE at hm
    split at hm
    · rename_i b ε0 e0
      cases hm
      obtain ⟨r1, e1, et⟩ := tsR_some e0
      exact ⟨G, ε, r1, _, rel, e1, fun v H' G' s k => ⟨b, truR_ok hK s.rel k et, hQ _ _ _ s (.bl _)⟩⟩
    · cases hm
  · obtain ⟨G, ε, k, ε1, rel, hm, hQ⟩ := q
    obtain ⟨r, e, et⟩ := tsR_some hm
    unfold evE at e
    split at e
    · rename_i b ε0 e0
      cases e
      cases et
      exact ⟨G, ε, b, _, rel, e0, hQ⟩
    · cases e
theorem e_and (hK : X.K = W.K) {a b : Expr} {rest : List Expr} {x y : E} {pos : Pos} (ha : Ok W D F X a x) (hb : PE X (.BoolOp .And (b :: rest) pos) (tM W (evE D F y))) (hw : PW X (.BoolOp .And (b :: rest) pos) (tTr W fun ε => tsR (evE D F y ε))) :
    PE X (.BoolOp .And (a :: b :: rest) pos) (tM W (evE D F (.and2 x y))) ∧ PW X (.BoolOp .And (a :: b :: rest) pos) (tTr W fun ε => tsR (evE D F (.and2 x y) ε)) := by
  refine ⟨(pe_andT ha.pe hb).imp fun σ H Q q => ?_, ⟨fun wh pins s σ H Q I q => (pw_and ha.pt hw).run wh pins s σ H Q I ?_⟩⟩
  · obtain ⟨G, ε, r, ε1, rel, hm, hQ⟩ := q
    unfold evE at hm
    split at hm
    · rename_i r0 ε0 e0
      split at hm
      · rename_i et
        cases hm
        exact ⟨G, ε, r, _, rel, e0, fun v H' G' s k => ⟨false, truR_ok hK s.rel k et, by simp only [Bool.false_eq_true, if_false]; exact hQ _ _ _ s k⟩⟩
      · rename_i et
        refine ⟨G, ε, r0, _, rel, e0, fun v H' G' s k => ⟨true, truR_ok hK s.rel k et, ?_⟩⟩
        simp only [if_true]
        exact ⟨G', ε0, r, ε1, s.rel, hm, fun u H2 G2 s2 k2 => hQ _ _ _ (s.trans s2) (by
          cases r with
          | v d => exact k2
          | o d => obtain ⟨a, e, o, m, f⟩ := k2; exact ⟨a, e, o, m, s.fresh f⟩
          | b i => exact k2)⟩
      · cases hm
    · cases hm
  · obtain ⟨G, ε, k, ε1, rel, hm, hQ⟩ := q
    obtain ⟨r, e, et⟩ := tsR_some hm
    unfold evE at e
    split at e
    · rename_i r0 ε0 e0
      split at e
      · rename_i e2
        cases e
        rw [e2] at et; cases et
        exact ⟨G, ε, false, _, rel, tsR_of e0 e2, fun H' G' s => by simp only [Bool.false_eq_true, if_false]; exact hQ _ _ s⟩
      · rename_i e2
        refine ⟨G, ε, true, _, rel, tsR_of e0 e2, fun H' G' s => ?_⟩
        simp only [if_true]
        exact ⟨G', ε0, k, ε1, s.rel, tsR_of e et, fun H2 G2 s2 => hQ _ _ (s.trans s2)⟩
      · cases e
    · cases e
theorem e_or (hK : X.K = W.K) {a b : Expr} {rest : List Expr} {x y : E} {pos : Pos} (ha : Ok W D F X a x) (hb : PE X (.BoolOp .Or (b :: rest) pos) (tM W (evE D F y))) (hw : PW X (.BoolOp .Or (b :: rest) pos) (tTr W fun ε => tsR (evE D F y ε))) :
    PE X (.BoolOp .Or (a :: b :: rest) pos) (tM W (evE D F (.or2 x y))) ∧ PW X (.BoolOp .Or (a :: b :: rest) pos) (tTr W fun ε => tsR (evE D F (.or2 x y) ε)) := by
  refine ⟨(pe_orT ha.pe hb).imp fun σ H Q q => ?_, ⟨fun wh pins s σ H Q I q => (pw_or ha.pt hw).run wh pins s σ H Q I ?_⟩⟩
  · obtain ⟨G, ε, r, ε1, rel, hm, hQ⟩ := q
    unfold evE at hm
    split at hm
    · rename_i r0 ε0 e0
      split at hm
      · rename_i et
        cases hm
        exact ⟨G, ε, r, _, rel, e0, fun v H' G' s k => ⟨true, truR_ok hK s.rel k et, by simp only [if_true]; exact hQ _ _ _ s k⟩⟩
      · rename_i et
        refine ⟨G, ε, r0, _, rel, e0, fun v H' G' s k => ⟨false, truR_ok hK s.rel k et, ?_⟩⟩
        simp only [Bool.false_eq_true, if_false]
        exact ⟨G', ε0, r, ε1, s.rel, hm, fun u H2 G2 s2 k2 => hQ _ _ _ (s.trans s2) (by
          cases r with
          | v d => exact k2
          | o d => obtain ⟨a, e, o, m, f⟩ := k2; exact ⟨a, e, o, m, s.fresh f⟩
          | b i => exact k2)⟩
      · cases hm
    · cases hm
  · obtain ⟨G, ε, k, ε1, rel, hm, hQ⟩ := q
    obtain ⟨r, e, et⟩ := tsR_some hm
    unfold evE at e
    split at e
    · rename_i r0 ε0 e0
      split at e
      · rename_i e2
        cases e
        rw [e2] at et; cases et
        exact ⟨G, ε, true, _, rel, tsR_of e0 e2, fun H' G' s => by simp only [if_true]; exact hQ _ _ s⟩
      · rename_i e2
        refine ⟨G, ε, false, _, rel, tsR_of e0 e2, fun H' G' s => ?_⟩
        simp only [Bool.false_eq_true, if_false]
        exact ⟨G', ε0, k, ε1, s.rel, tsR_of e et, fun H2 G2 s2 => hQ _ _ (s.trans s2)⟩
      · cases e
    · cases e
/-- a step behind a test, a result -/
theorem RR.old {r : RV} {v : V} (s : Stp W ε σ H G ε0 H1 G1) (k : RR W H1 ε' σ H2 G2 r v) : RR W H ε' σ H2 G2 r v := by
  cases r with
  | v d => exact k
  | o d => obtain ⟨a, e, o, m, f⟩ := k; exact ⟨a, e, o, m, s.fresh f⟩
  | b i => exact k
theorem e_ife {c a b : Expr} {x y z : E} {pos : Pos} (hc : Ok W D F X c x) (ha : Ok W D F X a y) (hb : Ok W D F X b z) : Ok W D F X (.IfExp c a b pos) (.ife x y z) := by
  refine ⟨(pe_ifExp hc.pt ha.pe hb.pe).imp fun σ H Q q => ?_, (pt_ifExp hc.pt ha.pt hb.pt).imp fun σ H Q q => ?_⟩
  · obtain ⟨G, ε, r, ε1, rel, hm, hQ⟩ := q
    unfold evE at hm
    split at hm
    · rename_i ε0 e0
      refine ⟨G, ε, true, _, rel, e0, fun H' G' s => ?_⟩
      simp only [if_true]
      exact ⟨G', ε0, r, ε1, s.rel, hm, fun u H2 G2 s2 k2 => hQ _ _ _ (s.trans s2) (k2.old s)⟩
    · rename_i ε0 e0
      refine ⟨G, ε, false, _, rel, e0, fun H' G' s => ?_⟩
      simp only [Bool.false_eq_true, if_false]
      exact ⟨G', ε0, r, ε1, s.rel, hm, fun u H2 G2 s2 k2 => hQ _ _ _ (s.trans s2) (k2.old s)⟩
    · cases hm
  · obtain ⟨G, ε, k, ε1, rel, hm, hQ⟩ := q
    obtain ⟨r, e, et⟩ := tsR_some hm
    unfold evE at e
    split at e
    · rename_i ε0 e0
      refine ⟨G, ε, true, _, rel, e0, fun H' G' s => ?_⟩
      simp only [if_true]
      exact ⟨G', ε0, k, ε1, s.rel, tsR_of e et, fun H2 G2 s2 => hQ _ _ (s.trans s2)⟩
    · rename_i ε0 e0
      refine ⟨G, ε, false, _, rel, e0, fun H' G' s => ?_⟩
      simp only [Bool.false_eq_true, if_false]
      exact ⟨G', ε0, k, ε1, s.rel, tsR_of e et, fun H2 G2 s2 => hQ _ _ (s.trans s2)⟩
    · cases e
/-! ### items, slices, fields -/
theorem e_ix (hK : X.K = W.K) (hu : X.A.units + 64 < cLine) (KD : KdOk W X.w D.kds) {a b : Expr} {x y : E} {pos : Pos} (ha : PE X a (tM W (evE D F x))) (hb : PE X b (tM W (evE D F y))) (hs : PlainIx b) : PE X (.Subscript a b pos) (tM W (evE D F (.ix x y))) := (pe_ix (ixS hK hu KD) ha hb hs).imp fun σ H Q q => by
  obtain ⟨G, ε, r, ε1, rel, hm, hQ⟩ := q
  unfold evE at hm
  split at hm
  · rename_i rx εx ex
    split at hm
    · rename_i ry εy ey
      split at hm
      · rename_i d e ed ee
        obtain ⟨c, hm1, rfl, rfl⟩ := ofV_some hm
        refine ⟨G, ε, rx, εx, rel, ex, fun v H1 G1 s k => ⟨G1, εx, ry, _, s.rel, ey, fun u H2 G2 s2 k2 => ?_⟩⟩
        obtain ⟨h1, h2⟩ := two_rdb s2 k k2 ed ee
        exact ⟨G2, d, e, c, s2.rel.sub, h1, h2, hm1, fun w kw => hQ _ _ _ (s.trans s2) kw⟩
      · cases hm
    · cases hm
  · cases hm
variable (W D F) in
def tO (o : OE) : TO := fun σ H Q => ∃ G ε r ε', Rel W ε σ H G ∧ evO D F o ε = some (r, ε') ∧ ∀ H' G', Stp W ε σ H G ε' H' G' → Q r H'
theorem po_no : PO X none (tO W D F .no) := ⟨fun pins s σ H Q I q => po_none.run pins s σ H Q I (by
  obtain ⟨G, ε, r, ε1, rel, hm, hQ⟩ := q
  cases hm
  exact hQ _ _ (.refl rel))⟩
theorem po_so {a : Expr} {x : E} (ha : PE X a (tM W (evE D F x))) : PO X (some a) (tO W D F (.so x)) := ⟨fun pins s σ H Q I q => (po_some ha).run pins s σ H Q I (by
  obtain ⟨G, ε, r, ε1, rel, hm, hQ⟩ := q
  unfold evO at hm
  split at hm
  · rename_i i ε0 e0
    cases hm
    exact tIv_of rel e0 fun H' G' s => ⟨i, rfl, hQ _ _ s⟩
  · cases hm)⟩
theorem e_slc (hK : X.K = W.K) {a : Expr} {lo hi : Option Expr} {x : E} {l h : OE} {pos p2 : Pos} (ha : PE X a (tM W (evE D F x))) (hl : PO X lo (tO W D F l)) (hh : PO X hi (tO W D F h)) : PE X (.Subscript a (.Slice lo hi none p2) pos) (tM W (evE D F (.slc x l h))) := (pe_slice (slS hK) ha hl hh).imp fun σ H Q q => by
  obtain ⟨G, ε, r, ε1, rel, hm, hQ⟩ := q
  unfold evE at hm
  split at hm
  · rename_i rx εx ex
    split at hm
    · rename_i rl εl el
      split at hm
      · rename_i rh εh eh
        split at hm
        · rename_i d ed
          obtain ⟨hm1, rfl⟩ := ofR_some hm
          refine ⟨G, ε, rx, εx, rel, ex, fun v H1 G1 s k => ⟨G1, εx, rl, _, s.rel, el, fun H2 G2 s2 => ⟨G2, _, rh, _, s2.rel, eh, fun H3 G3 s3 => ?_⟩⟩⟩
          refine ⟨G3, d, r, s3.rel.sub, look_rdb s3.rel ed ((k.step s2).step s3).r0, hm1, fun w H' G' ar => ?_⟩
          obtain ⟨a, b⟩ := AR.fin0 ((s.trans s2).trans s3) ar
          exact hQ _ _ _ a b
        · cases hm
      · cases hm
    · cases hm
  · cases hm
/-- what a class of the text must be -/
def ClsF (W : Wr) (D : Tbl) : Prop := ∀ c f, hasFld D c f = true → Cls W.K (W.C c) ∧ NoAttr W.K (W.C c) f
theorem e_fld (hK : X.K = W.K) (hc : ClsF W D) {a : Expr} {x : E} {f : Str} {pos : Pos} (ha : PE X a (tM W (evE D F x))) (hb : attributeBase a f X.env (eval a X.env) = eval a X.env) : PE X (.Attribute a f pos) (tM W (evE D F (.fld x f))) := (pe_fld ha hb).imp fun σ H Q q => by
  obtain ⟨G, ε, r, ε1, rel, hm, hQ⟩ := q
  unfold evE at hm
  split at hm
  · rename_i rx εx ex
    split at hm
    · rename_i d ed
      obtain ⟨e, hm1, rfl, rfl⟩ := ofV_some hm
      cases d <;> try (cases hm1; done)
      rename_i c fs
      simp only [fldOf] at hm1
      split at hm1
      · rename_i hf
        refine ⟨G, ε, rx, _, rel, ex, fun v H1 G1 s k => ?_⟩
        obtain ⟨a, dx, vs, rfl, ea, rr⟩ := rdb_ins s.rel.sub (look_rdb s.rel ed k.r0)
        obtain ⟨h1, h2⟩ := hc c f hf
        rcases rr.lookup f with ⟨l1, _⟩ | ⟨d2, v2, l1, l2, l3⟩
        · rw [l1] at hm1; cases hm1
        · rw [l1] at hm1; cases hm1
          exact ⟨a, W.C c, dx, vs, v2, rfl, ea, hK ▸ h1, hK ▸ h2, l2, hQ _ _ _ s l3⟩
      · cases hm1
    · cases hm
  · cases hm
end
end Eng
end
section
set_option Elab.async false
set_option linter.all false
set_option maxRecDepth 100000
set_option maxHeartbeats 4000000
/-! EO: calls, displays of dicts, comprehensions as expressions. -/
namespace Eng
open PySem PySem.Spec PyProof.Rows L2 RZ
section
variable {W : Wr} {X : Cx} {D : Tbl} {F : FT} {ε ε' ε0 ε1 ε2 : Env} {σ σ' σ0 : L2.St} {H G H' G' H1 G1 H2 G2 : Hp}
/-! ### calls -/
theorem doCall_some {f : List Arg → Option (RV × List Val)} {rs : List RV} {r : RV} (h : doCall f rs ε = some (r, ε')) : ∃ as ds, argsOf rs ε = some as ∧ nodupB (lentIx rs ε) = true ∧ f as = some (r, ds) ∧ ε' = back rs ds ε := by
  unfold doCall at h
  split at h
  · rename_i as ea
    split at h
    · rename_i hn
      split at h
      · rename_i r0 ds er
        cases h
        exact ⟨as, ds, ea, hn, er, rfl⟩
      · cases h
    · cases h
  · cases h
/-- the callee's promise, from the caller's side -/
theorem call_sp {f : List Arg → Option (RV × List Val)} {rs : List RV} {r : RV} {vs : List V} {H0 G0 : Hp} {Q : VK} {E : XK} (s : Stp W ε σ H0 G0 ε1 H1 G1) (k : RRs W H0 ε1 σ H1 G1 rs vs) (h : doCall f rs ε1 = some (r, ε'))
    (hQ : ∀ v H' G', Stp W ε σ H0 G0 ε' H' G' → RR W H0 ε' σ H' G' r v → Q v H') : spF W f vs H1 Q E := by
  obtain ⟨as, ds, ha, hn, hf, rfl⟩ := doCall_some h
  refine ⟨G1, as, r, ds, s.rel.sub, args_ok s.rel k ha hn, hf, fun v H' G' c => ?_⟩
  obtain ⟨a, b⟩ := call_step s k ha hn c
  exact hQ _ _ _ a b
/-- a def as it may be called -/
structure FnAt (X : Cx) (W : Wr) (F : FT) (lv : Nat) (f : Nat) (a : Addr) : Prop where
  ex : ∃ fd ps, FnOk X.prog X.w X.K X.mg X.base C8.CX0 lv a fd ps (spF W (F f)) ∧ PySem.W.keepIn X.K (.ref a) = true ∧ Binds X.K fd ps []
theorem e_call {lv f : Nat} {a : Addr} {x : Str} {e : Expr} {es : List Expr} {xs : Es} {p pos : Pos} (A : FnAt X W F lv f a) (hr : Room lv X.A) (hg : Gl X x) (hm : X.mg x = some (.ref a)) (ha : PA X (e :: es) (tAs W (evA D F xs))) (hdb : (x == ("__debug__" : Str)) = false)
    (he : starEach (e :: es) X.env = (false, eval e X.env) :: starEach es X.env) (hpl : (backTo pos (starEach es X.env)).any (·.1) = false) : PE X (.Call (.Name x p) (e :: es) [] pos) (tM W (evE D F (.call f xs))) := by
  obtain ⟨fd, ps, Fo, kp, bi⟩ := A.ex
  refine PE.imp (pe_call Fo hr hg hm kp bi .nil C8.pass0 (E := C8.E0) ha hdb he hpl) fun σ H Q q => ?_
  obtain ⟨G, ε, r, ε1, rel, hm, hQ⟩ := q
  unfold evE at hm
  split at hm
  · rename_i rs ε0 e0
    refine ⟨G, ε, rs, _, rel, e0, fun vs H1 G1 s k => ?_⟩
    show spF W (F f) (vs ++ []) H1 Q _
    rw [List.append_nil]
    exact call_sp s k hm hQ
  · cases hm
theorem e_call0 {lv f : Nat} {a : Addr} {x : Str} {p pos : Pos} (A : FnAt X W F lv f a) (hr : Room lv X.A) (hg : Gl X x) (hm : X.mg x = some (.ref a)) (hdb : (x == ("__debug__" : Str)) = false) : PE X (.Call (.Name x p) [] [] pos) (tM W (evE D F (.call f .nil))) := by
  obtain ⟨fd, ps, Fo, kp, bi⟩ := A.ex
  refine PE.imp (pe_call0 Fo hr hg hm kp bi .nil C8.pass0 (E := C8.E0) hdb) fun σ H Q q => ?_
  obtain ⟨G, ε, r, ε1, rel, hm, hQ⟩ := q
  unfold evE at hm
  split at hm
  · rename_i rs ε0 e0
    unfold evA at e0
    cases e0
    exact call_sp (vs := []) (E := C8.E0) (.refl rel) .nil hm hQ
  · cases hm
/-- the methods of the classes -/
def MethF (X : Cx) (W : Wr) (D : Tbl) (F : FT) (lv : Nat) : Prop := ∀ c C m f, D.cls[c]? = some C → C.meths.lookup m = some f → Cls X.K (W.C c) ∧ ∃ a, Meth X.K (W.C c) m a ∧ FnAt X W F lv f a
theorem clsOf_some {m : Str} {d : Val} {f : Nat} (h : clsOf D m d = some f) : ∃ c fs C, d = .ins c fs ∧ fs.lookup m = none ∧ D.cls[c]? = some C ∧ C.meths.lookup m = some f := by
  unfold clsOf at h
  split at h
  · rename_i c fs
    split at h
    · cases h
    · rename_i hl
      split at h
      · rename_i C hC
        exact ⟨c, fs, C, rfl, hl, hC, h⟩
      · cases h
  · cases h
theorem e_meth {lv : Nat} (hK : X.K = W.K) (M : MethF X W D F lv) (hr : Room lv X.A) {o e : Expr} {es : List Expr} {x : E} {xs : Es} {m : Str} {apos pos : Pos} {pl : Sem Bool} (ho : PE X o (tM W (evE D F x))) (ha : PA X (e :: es) (tAs W (evA D F xs)))
    (he : starEach (e :: es) X.env = (false, eval e X.env) :: starEach es X.env) (hpl : (backTo pos (starEach es X.env)).any (·.1) = false)
    (ht : eval (.Call (.Attribute o m apos) (e :: es) [] pos) X.env = (do
      let ov ← eval o X.env
      standAt apos.atName
      let (f, first) ← holding [ov] (getMethod ov m pl)
      callWith pos f first (backTo pos (starEach (e :: es) X.env)) (backToKw pos (keywordEach [] X.env)))) : PE X (.Call (.Attribute o m apos) (e :: es) [] pos) (tM W (evE D F (.meth m x xs))) := by
  refine ⟨fun pins s σ H Q I q => ?_⟩
  obtain ⟨G, ε, r, ε', rel, hm, hQ⟩ := q
  unfold evE at hm
  split at hm
  · rename_i rx εx ex
    split at hm
    · rename_i d ed
      split at hm
      · rename_i f ef
        split at hm
        · rename_i rs ε2 e2
          obtain ⟨c, fs, C, rfl, hl, hC, hf⟩ := clsOf_some ef
          obtain ⟨cl, a, me, A⟩ := M c C m f hC hf
          obtain ⟨fd, ps, Fo, kp, bi⟩ := A.ex
          refine (pe_meth (E := C8.E0) ho cl me Fo hr bi .nil C8.pass0 ha he hpl ht).run pins s σ H Q I ?_
          refine ⟨G, ε, rx, εx, rel, ex, fun v H1 G1 s1 k1 => ?_⟩
          obtain ⟨b, dx, vs, rfl, eb, rr⟩ := rdb_ins s1.rel.sub (look_rdb s1.rel ed k1.r0)
          refine ⟨b, dx, vs, rfl, eb, ?_, G1, εx, rs, _, s1.rel, e2, fun us H2 G2 s2 k2 => ?_⟩
          · rcases rr.lookup m with ⟨_, l⟩ | ⟨_, _, l, _⟩
            · exact l
            · rw [hl] at l; cases l
          · show spF W (F f) (.ref b :: (us ++ [])) H2 Q _
            rw [List.append_nil]
            refine call_sp (rs := rx :: rs) (s1.trans s2) (.cons (k1.step s2) ?_ (k2.old s1)) hm hQ
            rintro d' rfl i d2 e1 ev
            obtain ⟨a, ea, o, _, _⟩ := k1
            cases ea
            obtain ⟨w, h1, h2⟩ := k2.get e1
            rw [ev] at h1; cases h1
            obtain ⟨b', h3, _, _, h4⟩ := h2
            cases h3
            obtain ⟨u, hu⟩ := o.there
            rw [h4] at hu; cases hu
        · cases hm
      · cases hm
    · cases hm
  · cases hm
theorem e_meth0 {lv : Nat} (hK : X.K = W.K) (M : MethF X W D F lv) (hr : Room lv X.A) {o : Expr} {x : E} {m : Str} {apos pos : Pos} {pl : Sem Bool} (ho : PE X o (tM W (evE D F x)))
    (ht : eval (.Call (.Attribute o m apos) [] [] pos) X.env = (do
      let ov ← eval o X.env
      standAt apos.atName
      let (f, first) ← holding [ov] (getMethod ov m pl)
      callWith pos f first (backTo pos (starEach [] X.env)) (backToKw pos (keywordEach [] X.env)))) : PE X (.Call (.Attribute o m apos) [] [] pos) (tM W (evE D F (.meth m x .nil))) := by
  refine ⟨fun pins s σ H Q I q => ?_⟩
  obtain ⟨G, ε, r, ε', rel, hm, hQ⟩ := q
  unfold evE at hm
  split at hm
  · rename_i rx εx ex
    split at hm
    · rename_i d ed
      split at hm
      · rename_i f ef
        split at hm
        · rename_i rs ε2 e2
          unfold evA at e2
          cases e2
          obtain ⟨c, fs, C, rfl, hl, hC, hf⟩ := clsOf_some ef
          obtain ⟨cl, a, me, A⟩ := M c C m f hC hf
          obtain ⟨fd, ps, Fo, kp, bi⟩ := A.ex
          refine (pe_meth0 (E := C8.E0) ho cl me Fo hr bi .nil C8.pass0 ht).run pins s σ H Q I ?_
          refine ⟨G, ε, rx, _, rel, ex, fun v H1 G1 s1 k1 => ?_⟩
          obtain ⟨b, dx, vs, rfl, eb, rr⟩ := rdb_ins s1.rel.sub (look_rdb s1.rel ed k1.r0)
          refine ⟨b, dx, vs, rfl, eb, ?_, ?_⟩
          · rcases rr.lookup m with ⟨_, l⟩ | ⟨_, _, l, _⟩
            · exact l
            · rw [hl] at l; cases l
          · exact call_sp (rs := [rx]) (vs := [.ref b]) (E := C8.E0) s1 (.cons k1 (fun d _ i d' e => by simp at e) .nil) hm hQ
        · cases hm
      · cases hm
    · cases hm
  · cases hm
/-! ### instances made -/
structure MkAt (X : Cx) (W : Wr) (D : Tbl) (F : FT) (lv : Nat) (c : Nat) (C : ClsR) : Prop where
  ex : ∃ a, Mk X.K (W.C c) a ∧ FnAt X W F lv C.init a
theorem mkI_some {c : Nat} {rs : List RV} {r : RV} (h : mkI D F c rs ε = some (r, ε')) : ∃ C as d ds, D.cls[c]? = some C ∧ argsOf rs ε = some as ∧ nodupB (lentIx rs ε) = true ∧ F C.init (.lent (.ins c []) :: as) = some (.v .non, d :: ds) ∧ r = (if C.frozen then .v d else .o d) ∧ ε' = back rs ds ε := by
  unfold mkI at h
  split at h
  · cases h
  · rename_i C hC
    split at h
    · cases h
    · rename_i as ea
      split at h
      · rename_i hn
        split at h
        · rename_i d ds ed
          cases h
          exact ⟨C, as, d, ds, hC, ea, hn, ed, rfl, rfl⟩
        · cases h
      · cases h
theorem make_sp {c : Nat} {rs : List RV} {r : RV} {vs : List V} {H0 G0 : Hp} {Q : VK} {E : XK} {C : ClsR} (hC : D.cls[c]? = some C) (s : Stp W ε σ H0 G0 ε1 H1 G1) (k : RRs W H0 ε1 σ H1 G1 rs vs) (h : mkI D F c rs ε1 = some (r, ε'))
    (hQ : ∀ v H' G', Stp W ε σ H0 G0 ε' H' G' → RR W H0 ε' σ H' G' r v → Q v H') :
    ∀ x dx, H1 x = none → H1 dx = none → dx ≠ x → spF W (F C.init) (.ref x :: vs) (upd (upd H1 dx (.own x)) x (.ins (W.C c) dx [])) (fun v H2 => v = .non ∧ Q (.ref x) H2) E := by
  intro x dx hx hdx ne
  obtain ⟨C', as, d, ds, hC', ha, hn, hf, rfl, rfl⟩ := mkI_some h
  rw [hC] at hC'; cases hC'
  have A := args_ok s.rel k ha hn
  have n1 : (upd H1 dx (.own x)) x = none := by rw [upd_ne (Ne.symm ne)]; exact hx
  have sub1 : Sub H1 (upd (upd H1 dx (.own x)) x (.ins (W.C c) dx [])) := (sub_upd hdx).trans (sub_upd n1)
  have subG : Sub G1 (upd (upd H1 dx (.own x)) x (.ins (W.C c) dx [])) := s.rel.sub.trans sub1
  have gx : G1 x = none := sub_none s.rel.sub hx
  have nv : ∀ {i : Nat} {e : Val} {a : Addr}, as[i]? = some (.lent e) → vs[i]? = some (.ref a) → a ≠ x := fun {i e a} h1 h2 => by
    obtain ⟨b, h3, h4⟩ := A.lent i e h1
    rw [h2] at h3; cases h3
    obtain ⟨u, hu⟩ := h4.there
    exact ne_of_none hu hx
  refine ⟨G1, .lent (.ins c []) :: as, .v .non, d :: ds, subG, ⟨by simp [A.len], fun i e h => ?_, fun i e h => ?_, fun i j a e e2 h1 h2 h3 h4 => ?_⟩, hf, fun v H' G' cs => ?_⟩
  · cases i with
    | zero => cases h
    | succ i => exact A.val i e h
  · cases i with
    | zero =>
      cases h
      exact ⟨x, rfl, gx, dx, [], upd_same, .nil⟩
    | succ i =>
      obtain ⟨a, h1, h2⟩ := A.lent i e h
      obtain ⟨u, hu⟩ := h2.there
      exact ⟨a, h1, h2.keep (Sub.refl _) (fun u e => sub1 _ _ e) rfl⟩
  · cases i with
    | zero =>
      cases j with
      | zero => rfl
      | succ j =>
        cases h3
        exact absurd rfl (nv (i := j) h2 h4)
    | succ i =>
      cases j with
      | zero =>
        cases h4
        exact absurd rfl (nv (i := i) h1 h3)
      | succ j => rw [A.apart i j a e e2 h1 h2 h3 h4]
  · have res := cs.res
    have ev : v = .non := by cases (show Rep W G' .non v from res); rfl
    refine ⟨ev, ?_⟩
    have ox := cs.outs 0 (.ins c []) d x rfl rfl rfl
    have nLA : ∀ {a : Addr} {o : HO}, H1 a = some o → ¬ LA as vs a → ¬ LA (.lent (.ins c []) :: as) (.ref x :: vs) a := fun {a o} e n ⟨i, e2, h1, h2⟩ => by
      cases i with
      | zero => cases h2; rw [hx] at e; cases e
      | succ i => exact n ⟨i, e2, h1, h2⟩
    have cs' : CSt W H1 G1 as vs (.o d) ds (.ref x) H' G' := by
      refine ⟨cs.sub, cs.grow, fun a o e n => cs.keep a o (sub1 _ _ e) (nLA e n), fun a o e n => cs.newG a o (sub1 _ _ e) (nLA e n), fun a o e => cs.there a o (sub1 _ _ e), ?_, fun i e e2 a h1 h2 h3 => cs.outs (i + 1) e e2 a h1 h2 h3, x, rfl, ox, hx⟩
      have := cs.len
      simpa using this
    obtain ⟨st, kk⟩ := call_step s k ha hn cs'
    cases hfz : C.frozen with
    | false =>
      refine hQ _ _ _ st ?_
      rw [hfz]
      exact kk
    | true =>
      obtain ⟨G3, s3, r3, _⟩ := fz_step st kk (rfl : fz (.o d) (back rs ds ε1) = some (d, back rs ds ε1))
      refine hQ _ _ _ s3 ?_
      rw [hfz]
      exact r3
theorem e_make {lv c : Nat} {C : ClsR} {x : Str} {e : Expr} {es : List Expr} {xs : Es} {p pos : Pos} (hC : D.cls[c]? = some C) (A : MkAt X W D F lv c C) (hr : Room (lv + 1) X.A) (hg : Gl X x) (hm : X.mg x = some (.ref (W.C c))) (ha : PA X (e :: es) (tAs W (evA D F xs))) (hdb : (x == ("__debug__" : Str)) = false)
    (he : starEach (e :: es) X.env = (false, eval e X.env) :: starEach es X.env) (hpl : (backTo pos (starEach es X.env)).any (·.1) = false) : PE X (.Call (.Name x p) (e :: es) [] pos) (tM W (evE D F (.make c xs))) := by
  obtain ⟨a, mk, B⟩ := A.ex
  obtain ⟨fd, ps, Fo, kp, bi⟩ := B.ex
  refine PE.imp (pe_make mk Fo hr hg hm bi .nil C8.pass0 (E := C8.E0) ha hdb he hpl) fun σ H Q q => ?_
  obtain ⟨G, ε, r, ε1, rel, hm, hQ⟩ := q
  unfold evE at hm
  split at hm
  · rename_i rs ε0 e0
    refine ⟨G, ε, rs, _, rel, e0, fun vs H1 G1 s k => ?_⟩
    intro x dx h1 h2 h3
    show spF W (F C.init) (.ref x :: (vs ++ [])) _ _ _
    rw [List.append_nil]
    exact make_sp hC s k hm hQ x dx h1 h2 h3
  · cases hm
theorem e_make0 {lv c : Nat} {C : ClsR} {x : Str} {p pos : Pos} (hC : D.cls[c]? = some C) (A : MkAt X W D F lv c C) (hr : Room (lv + 1) X.A) (hg : Gl X x) (hm : X.mg x = some (.ref (W.C c))) (hdb : (x == ("__debug__" : Str)) = false) : PE X (.Call (.Name x p) [] [] pos) (tM W (evE D F (.make c .nil))) := by
  obtain ⟨a, mk, B⟩ := A.ex
  obtain ⟨fd, ps, Fo, kp, bi⟩ := B.ex
  refine PE.imp (pe_make0 mk Fo hr hg hm bi .nil C8.pass0 (E := C8.E0) hdb) fun σ H Q q => ?_
  obtain ⟨G, ε, r, ε1, rel, hm, hQ⟩ := q
  unfold evE at hm
  split at hm
  · rename_i rs ε0 e0
    unfold evA at e0
    cases e0
    intro x dx h1 h2 h3
    exact make_sp (E := C8.E0) hC (.refl rel) .nil hm hQ x dx h1 h2 h3
  · cases hm
end
end Eng
end
section
set_option Elab.async false
set_option linter.all false
set_option maxRecDepth 100000
set_option maxHeartbeats 4000000
/-! EP: built-in functions, isinstance, dicts written out, comprehensions. -/
namespace Eng
open PySem PySem.Spec PyProof.Rows L2 RZ
section
variable {W : Wr} {X : Cx} {D : Tbl} {F : FT} {ε ε' ε0 ε1 ε2 : Env} {σ σ' σ0 : L2.St} {H G H' G' H1 G1 H2 G2 : Hp}
theorem looks_rdbs {H0 : Hp} (rel : Rel W ε σ H G) : ∀ {rs : List RV} {vs : List V} {ds : List Val}, looks rs ε = some ds → RRs W H0 ε σ H G rs vs → Rdbs W H G ds vs
  | [], _, ds, h, k => by
    cases k
    cases h
    exact .nil
  | r :: rs, _, ds, h, k => by
    cases k with
    | cons q n rr =>
      unfold looks at h
      split at h
      · rename_i d e
        split at h
        · rename_i ds' e2
          cases h
          exact .cons (look_rdb rel e q.r0) (looks_rdbs rel e2 rr)
        · cases h
      · cases h
theorem blt_t {f : List Val → Option RV} {b : Nat} {xs : Es} {Q : VK} (hb : ∀ ds, blt b ds = f ds) (q : tM W (evE D F (.blt b xs)) σ H Q) : tCB (bR W f) (tAs W (evA D F xs)) σ H Q := by
  obtain ⟨G, ε, r, ε1, rel, hm, hQ⟩ := q
  unfold evE at hm
  split at hm
  · rename_i rs ε0 e0
    split at hm
    · rename_i ds e2
      obtain ⟨hm1, rfl⟩ := ofR_some hm
      refine ⟨G, ε, rs, _, rel, e0, fun vs H1 G1 s k => ⟨G1, ds, r, s.rel.sub, looks_rdbs s.rel e2 k, by rw [← hb]; exact hm1, fun v H' G' ar => ?_⟩⟩
      obtain ⟨a, b⟩ := AR.fin0 s ar
      exact hQ _ _ _ a b
    · cases hm
  · cases hm
section
variable {x : Str} {e : Expr} {es : List Expr} {xs : Es} {p pos : Pos} {f : List Val → Option RV} {b : Nat} {id T : String}
theorem e_bltB (hb : ∀ ds, blt b ds = f ds) (hc : CallR X (.builtin id) (bR W f)) (hg : Gl X x) (hm : X.mg x = none) (hv : bootBuiltins x = some (.builtin id)) (ha : PA X (e :: es) (tAs W (evA D F xs))) (hn : x ≠ "__name__") (hdb : (x == ("__debug__" : Str)) = false)
    (he : starEach (e :: es) X.env = (false, eval e X.env) :: starEach es X.env) (hpl : (backTo pos (starEach es X.env)).any (·.1) = false) : PE X (.Call (.Name x p) (e :: es) [] pos) (tM W (evE D F (.blt b xs))) :=
  PE.imp (pe_callB hc hg hm hv ha hn hdb he hpl) fun σ H Q q => blt_t hb q
theorem e_bltT (hb : ∀ ds, blt b ds = f ds) (hc : CallR X (.type T) (bR W f)) (hg : Gl X x) (hm : X.mg x = none) (hv : bootBuiltins x = some (.type T)) (ha : PA X (e :: es) (tAs W (evA D F xs))) (hn : x ≠ "__name__") (hdb : (x == ("__debug__" : Str)) = false)
    (he : starEach (e :: es) X.env = (false, eval e X.env) :: starEach es X.env) (hpl : (backTo pos (starEach es X.env)).any (·.1) = false) : PE X (.Call (.Name x p) (e :: es) [] pos) (tM W (evE D F (.blt b xs))) :=
  PE.imp (pe_callTy hc hg hm hv ha hn hdb he hpl) fun σ H Q q => blt_t hb q
end
theorem strs_rep : ∀ {xs : List Val} {ss : List Str}, strsOf xs = some ss → xs = ss.map Val.str
  | [], ss, h => by cases h; rfl
  | x :: xs, ss, h => by
    cases x <;> try (cases h; done)
    rename_i s
    simp only [strsOf] at h
    split at h
    · rename_i r e
      cases h
      rw [strs_rep e]; rfl
    · cases h
/-- s.join(l) -/
theorem e_join (hK : X.K = W.K) {o e : Expr} {z0 : Str} {y : E} {apos pos : Pos} (ho : PE X o (tM W (evE D F (.lit (.str z0))))) (he : PE X e (tM W (evE D F y))) (hs : starEach [e] X.env = [(false, eval e X.env)]) (hbase : attributeBase o "join" X.env (eval o X.env) = eval o X.env) (hline : (apos.endLine == pos.line) = true) :
    PE X (.Call (.Attribute o "join" apos) [e] [] pos) (tM W (evE D F (.blt 20 (.cons (.lit (.str z0)) (.cons y .nil))))) := PE.imp (pe_join ho he hs hbase hline) fun σ H Q q => by
  obtain ⟨G, ε, r, ε1, rel, hm, hQ⟩ := q
  unfold evE at hm
  split at hm
  · rename_i rs ε0 e0
    split at hm
    · rename_i ds e2
      obtain ⟨hm1, rfl⟩ := ofR_some hm
      unfold evA at e0
      split at e0
      · rename_i rx εx ex
        cases ex
        split at e0
        · rename_i rs' ε2 e3
          cases e0
          unfold evA at e3
          split at e3
          · rename_i ry εy ey
            unfold evA at e3
            cases e3
            simp only [looks] at e2
            split at e2
            · rename_i d ed
              split at e2
              · rename_i ds' es'
                split at es'
                · rename_i d2 ed2
                  cases es'
                  cases e2
                  simp only [blt] at hm1
                  cases d <;> cases d2 <;> simp only [bJoin] at hm1 <;> try (cases hm1; done)
                  rename_i z xs
                  split at hm1
                  · rename_i ss ess
                    split at hm1
                    · rename_i hz
                      cases hm1
                      refine ⟨G, ε, _, ε, rel, rfl, fun v H1 G1 s k => ⟨?_, G1, ε, ry, _, s.rel, ey, fun u H2 G2 s2 k2 => ?_⟩⟩
                      · cases (show Rep W G1 (.str z0) v from k); exact ⟨_, rfl⟩
                      · obtain ⟨h1, h2⟩ := two_rdb s2 k k2 ed ed2
                        obtain ⟨a, vs, rfl, q, rr⟩ := rdb_lst s2.rel.sub h2
                        rw [Reps.of_strs rr ess] at q
                        refine ⟨z, a, ss, rdb_str h1, rfl, .inl (SqL.of q), ?_, ?_⟩
                        · exact Nat.le_trans hz (by decide)
                        · exact hQ _ _ _ (s.trans s2) (.str _)
                    · cases hm1
                  · cases hm1
                · cases es'
              · cases e2
            · cases e2
          · cases e3
        · cases e0
      · cases e0
    · cases hm
  · cases hm
/-! ### d.get(..) -/
theorem rdb_isD (sb : Sub G H) {d : Val} {v : V} (h : isDct (some d) = true) (r : Rdb W H G d v) : ∃ a, v = .ref a ∧ IsD H a := by
  cases d <;> try (cases h; done)
  obtain ⟨a, vs, rfl, q, _⟩ := rdb_dct sb r
  exact ⟨a, rfl, .inl ⟨vs, .inl q⟩⟩
theorem isDct_some {r : RV} (h : isDct (look r ε) = true) : ∃ d, look r ε = some d ∧ isDct (some d) = true := by
  cases e : look r ε with
  | none => rw [e] at h; cases h
  | some d => exact ⟨d, rfl, e ▸ h⟩
theorem getD_rep {kvs : List (Key × Val)} {vs : List (Key × V)} {k : Key} {d : Val} {v : V} (r : RepK W G kvs vs) (q : Rep W G d v) : Rep W G ((dget kvs k).getD d) ((valV vs k).getD v) := by
  rcases r.get k with ⟨h1, h2⟩ | ⟨x, u, h1, h2, h3⟩
  · rw [h1, h2]; exact q
  · rw [h1, h2]; exact h3
theorem e_get1 (hu : X.A.units + 1 < cLine) {o e : Expr} {x y : E} {apos pos : Pos} (ho : PE X o (tM W (evE D F x))) (he : PE X e (tM W (evE D F y))) (m : M1 X o "get" apos e pos) : PE X (.Call (.Attribute o "get" apos) [e] [] pos) (tM W (evE D F (.dget1 x y))) := PE.imp (pe_dget1 hu ho he m) fun σ H Q q => by
  obtain ⟨G, ε, r, ε1, rel, hm, hQ⟩ := q
  unfold evE at hm
  split at hm
  · rename_i rx εx ex
    split at hm
    · rename_i hd
      split at hm
      · rename_i ry εy ey
        split at hm
        · rename_i d e ed ee
          obtain ⟨hm1, rfl⟩ := ofR_some hm
          refine ⟨G, ε, rx, εx, rel, ex, fun v H1 G1 s k => ?_⟩
          obtain ⟨d0, e0, hd0⟩ := isDct_some hd
          obtain ⟨a, rfl, hD⟩ := rdb_isD s.rel.sub hd0 (look_rdb s.rel e0 k.r0)
          refine ⟨a, rfl, hD, G1, εx, ry, _, s.rel, ey, fun u H2 G2 s2 k2 => ?_⟩
          obtain ⟨h1, h2⟩ := two_rdb s2 k k2 ed ee
          cases d <;> simp only [bGet1] at hm1 <;> try (cases hm1; done)
          rename_i kvs
          split at hm1
          · rename_i kk ek
            cases hm1
            obtain ⟨b, vs, eb, q, rr⟩ := rdb_dct s2.rel.sub h1
            cases eb
            exact ⟨valV vs kk, .inl ⟨vs, kk, .inl q, key_of ek h2, rfl⟩, hQ _ _ _ (s.trans s2) (getD_rep rr .non)⟩
          · cases hm1
        · cases hm
      · cases hm
    · cases hm
  · cases hm
theorem e_get2 (hu : X.A.units + 1 < cLine) {o e g : Expr} {x y z : E} {apos pos : Pos} (ho : PE X o (tM W (evE D F x))) (he : PE X e (tM W (evE D F y))) (hg : PE X g (tM W (evE D F z))) (m : M2 X o "get" apos e g pos) : PE X (.Call (.Attribute o "get" apos) [e, g] [] pos) (tM W (evE D F (.dget2 x y z))) := PE.imp (pe_dget2 hu ho he hg m) fun σ H Q q => by
  obtain ⟨G, ε, r, ε1, rel, hm, hQ⟩ := q
  unfold evE at hm
  split at hm
  · rename_i rx εx ex
    split at hm
    · rename_i hd
      split at hm
      · rename_i ry εy ey
        split at hm
        · rename_i g εg eg
          split at hm
          · rename_i d e ed ee
            obtain ⟨hm1, rfl⟩ := ofR_some hm
            refine ⟨G, ε, rx, εx, rel, ex, fun v H1 G1 s k => ?_⟩
            obtain ⟨d0, e0, hd0⟩ := isDct_some hd
            obtain ⟨a, rfl, hD⟩ := rdb_isD s.rel.sub hd0 (look_rdb s.rel e0 k.r0)
            refine ⟨a, rfl, hD, G1, εx, ry, _, s.rel, ey, fun u H2 G2 s2 k2 => ?_⟩
            refine tV_of s2.rel eg fun w H3 G3 s3 k3 => ?_
            have h1 := look_rdb s3.rel ed ((k.step s2).step s3).r0
            have h2 := look_rdb s3.rel ee (k2.step s3).r0
            cases d <;> simp only [bGet2] at hm1 <;> try (cases hm1; done)
            rename_i kvs
            split at hm1
            · rename_i kk ek
              cases hm1
              obtain ⟨b, vs, eb, q, rr⟩ := rdb_dct s3.rel.sub h1
              cases eb
              exact ⟨valV vs kk, .inl ⟨vs, kk, .inl q, key_of ek h2, rfl⟩, hQ _ _ _ ((s.trans s2).trans s3) (getD_rep rr k3)⟩
            · cases hm1
          · cases hm
        · cases hm
      · cases hm
    · cases hm
  · cases hm
/-! ### isinstance -/
def tyN : Nat → String
  | 0 => "int" | 1 => "bool" | 2 => "str" | 3 => "tuple" | 4 => "list" | _ => "dict"
def tyName : Val → Option String
  | .non => some "NoneType" | .bl _ => some "bool" | .int _ => some "int" | .str _ => some "str" | .tup _ => some "tuple" | .lst _ => some "list" | .dct _ => some "dict" | _ => none
theorem tyX_of (hK : X.K = W.K) (sb : Sub G H) {d : Val} {v : V} {n : String} (h : tyName d = some n) (r : Rdb W H G d v) : TyX X.K H v (.type n) := by
  cases d with
  | non => cases h; rw [rdb_non r]; exact .base .non
  | bl b => cases h; rw [rdb_bl r]; exact .base (.bl b)
  | int i => cases h; rw [rdb_int r]; exact .base (.int i)
  | str s => cases h; rw [rdb_str r]; exact .base (.str s)
  | tup xs =>
    cases h
    obtain ⟨a, vs, rfl, _, q, rr⟩ := rdb_tup sb r
    rw [hK]
    rcases q with (q | ⟨o, q⟩) | ⟨o, its, k, q1, q2, _⟩
    · exact .base (.tup q)
    · exact .fTuple q
    · exact .kTuple q1 q2
  | lst xs =>
    cases h
    obtain ⟨a, vs, rfl, q, rr⟩ := rdb_lst sb r
    exact .base (.lst q)
  | dct xs =>
    cases h
    obtain ⟨a, vs, rfl, q, rr⟩ := rdb_dct sb r
    exact .base (.dK q)
  | _ => cases h
def tyNames : List String := ["NoneType", "bool", "int", "str", "tuple", "list", "dict"]
theorem tyName_mem {d : Val} {n : String} (h : tyName d = some n) : n ∈ tyNames := by
  cases d <;> cases h <;> decide
/-- what isinstance asks of the text -/
structure IsF (K : PySem.W.Frag) (W : Wr) (n : Nat) : Prop where
  ty : ∀ t ∈ tyNames, ∀ d, d < n → PySem.W.kitOne K (.type t) (.ref (W.C d)) = some false
  cc : ∀ c d, c < n → d < n → PySem.W.kitOne K (.ref (W.C c)) (.ref (W.C d)) = some (c == d)
  ct : ∀ c, c < n → ∀ t ∈ tyNames, PySem.W.kitOne K (.ref (W.C c)) (.type t) = some false
  cl : ∀ c, c < n → Cls K (W.C c) ∧ PySem.W.findIn K (.ref (W.C c)) "__class__" = some (some (.builtin "object.__class__")) ∧ PySem.W.mroIn K (W.C c) (.type "object") = some true
  g1 : 0 < n → PySem.W.specialIn K (.builtin "object.__class__") "__get__" = some (some (.builtin "getset_descriptor.__get__"))
  g2 : 0 < n → PySem.W.takesIn K (.builtin "object.__class__") = some true
theorem tyX_ins {n c : Nat} {fs : List (Str × Val)} (hf : IsF X.K W n) (hc : c < n) (sb : Sub G H) {v : V} (r : Rdb W H G (.ins c fs) v) : TyX X.K H v (.ref (W.C c)) := by
  obtain ⟨a, dx, vs, rfl, q, rr⟩ := rdb_ins sb r
  obtain ⟨h1, h2, h3⟩ := hf.cl c hc
  have h0 : 0 < n := Nat.lt_of_le_of_lt (Nat.zero_le _) hc
  exact .base (.ins q h1 h2 (hf.g1 h0) (hf.g2 h0) h3)
theorem kit_bt {d : Val} {n t : Nat} {m : String} {b : Bool} (h : isBt n d t = some b) (hm : tyName d = some m) : kitB m (tyN t) = some b := by
  cases d <;> simp only [tyName, Option.some.injEq] at hm <;> (first | cases hm | skip) <;> simp only [isBt] at h <;> split at h <;> cases h <;>
    (rename_i ht; obtain ht | ht | ht | ht | ht | ht : t = 0 ∨ t = 1 ∨ t = 2 ∨ t = 3 ∨ t = 4 ∨ t = 5 := by omega) <;> subst ht <;> decide +kernel
theorem tyN_mem (t : Nat) : tyN t ∈ tyNames := by
  unfold tyN
  split <;> decide
section
variable {a b : Expr} {x : E} {p pos : Pos}
theorem e_isi (hg : Gl X "isinstance") (hm : X.mg "isinstance" = none) (hv : bootBuiltins "isinstance" = some (.builtin "isinstance")) {tb : TE} (ha : PE X a (tM W (evE D F x))) (hb : PE X b tb)
    (hs : starEach [a, b] X.env = (false, eval a X.env) :: starEach [b] X.env) (hs2 : starEach [b] X.env = (false, eval b X.env) :: starEach [] X.env) (hpl : (backTo pos (starEach [b] X.env)).any (·.1) = false) :
    PE X (.Call (.Name "isinstance" p) [a, b] [] pos) (tCB (rIsi X.K) (tCons (tM W (evE D F x)) (tCons tb tNil))) :=
  pe_callB call_isi hg hm hv (pa_cons ha (pa_cons hb pa_nil hs2) hs) (by decide) (by decide) hs hpl
theorem e_isB (hK : X.K = W.K) (hf : IsF X.K W D.cls.length) (hg : Gl X "isinstance") (hm : X.mg "isinstance" = none) (hv : bootBuiltins "isinstance" = some (.builtin "isinstance")) (t : Nat) (ha : PE X a (tM W (evE D F x))) (hb : PE X b (tC (.ty (tyN t))))
    (hs : starEach [a, b] X.env = (false, eval a X.env) :: starEach [b] X.env) (hs2 : starEach [b] X.env = (false, eval b X.env) :: starEach [] X.env) (hpl : (backTo pos (starEach [b] X.env)).any (·.1) = false) :
    PE X (.Call (.Name "isinstance" p) [a, b] [] pos) (tM W (evE D F (.isB x t))) := PE.imp (e_isi hg hm hv ha hb hs hs2 hpl) fun σ H Q q => by
  obtain ⟨G, ε, r, ε1, rel, hm, hQ⟩ := q
  unfold evE at hm
  split at hm
  · rename_i rx εx ex
    split at hm
    · rename_i d ed
      obtain ⟨c, hm1, rfl, rfl⟩ := ofBl_some hm
      refine ⟨G, ε, rx, _, rel, ex, fun v H1 G1 s k => ?_⟩
      have rd := look_rdb s.rel ed k.r0
      cases e : tyName d with
      | some n => exact ⟨v, _, _, _, c, rfl, .ty _, tyX_of hK s.rel.sub e rd, kit_ty (kit_bt hm1 e), hQ _ _ _ s (.bl c)⟩
      | none =>
        cases d <;> try (cases e; done)
        · rename_i cc fs
          simp only [isBt] at hm1
          split at hm1
          · rename_i hh
            cases hm1
            exact ⟨v, _, _, _, false, rfl, .ty _, tyX_ins hf hh.2 s.rel.sub rd, hf.ct _ hh.2 _ (tyN_mem t), hQ _ _ _ s (.bl _)⟩
          · cases hm1
        · cases hm1
        · cases hm1
    · cases hm
  · cases hm
theorem e_isC (hK : X.K = W.K) (hf : IsF X.K W D.cls.length) (hg : Gl X "isinstance") (hm : X.mg "isinstance" = none) (hv : bootBuiltins "isinstance" = some (.builtin "isinstance")) (t : Nat) (ha : PE X a (tM W (evE D F x))) (hb : PE X b (tC (.ref (W.C t))))
    (hs : starEach [a, b] X.env = (false, eval a X.env) :: starEach [b] X.env) (hs2 : starEach [b] X.env = (false, eval b X.env) :: starEach [] X.env) (hpl : (backTo pos (starEach [b] X.env)).any (·.1) = false) :
    PE X (.Call (.Name "isinstance" p) [a, b] [] pos) (tM W (evE D F (.isC x t))) := PE.imp (e_isi hg hm hv ha hb hs hs2 hpl) fun σ H Q q => by
  obtain ⟨G, ε, r, ε1, rel, hm, hQ⟩ := q
  unfold evE at hm
  split at hm
  · rename_i rx εx ex
    split at hm
    · rename_i d ed
      obtain ⟨c, hm1, rfl, rfl⟩ := ofBl_some hm
      refine ⟨G, ε, rx, _, rel, ex, fun v H1 G1 s k => ?_⟩
      have rd := look_rdb s.rel ed k.r0
      cases e : tyName d with
      | some n =>
        have hc : c = false ∧ t < D.cls.length := by
          cases d <;> simp only [isCt] at hm1 <;> first | (cases e; done) | (split at hm1 <;> first | (cases hm1; done) | (cases hm1; exact ⟨rfl, by assumption⟩))
        obtain ⟨rfl, ht⟩ := hc
        exact ⟨v, _, _, _, false, rfl, .own _, tyX_of hK s.rel.sub e rd, hf.ty _ (tyName_mem e) _ ht, hQ _ _ _ s (.bl _)⟩
      | none =>
        cases d <;> try (cases e; done)
        · rename_i cc fs
          simp only [isCt] at hm1
          split at hm1
          · rename_i hh
            cases hm1
            exact ⟨v, _, _, _, _, rfl, .own _, tyX_ins hf hh.1 s.rel.sub rd, hf.cc _ _ hh.1 hh.2, hQ _ _ _ s (.bl _)⟩
          · cases hm1
        · cases hm1
        · cases hm1
    · cases hm
  · cases hm
end
end
end Eng
end
section
set_option Elab.async false
set_option linter.all false
set_option maxRecDepth 100000
set_option maxHeartbeats 4000000
/-! EQ: from the text's expressions to the little language. -/
namespace Eng
open PySem PySem.Spec PyProof.Rows L2 RZ
/-! ### dicts written out -/
section
variable {W : Wr} {X : Cx} {D : Tbl} {F : FT} {ε ε' ε0 ε1 ε2 : Env} {σ σ' σ0 : L2.St} {H G H' G' H1 G1 H2 G2 : Hp}
variable (W D F) in
def trsOf : Es → List (TE × TE)
  | .cons k (.cons v ps) => (tV W fun ε => vlR (evE D F k ε), tV W fun ε => vlR (evE D F v ε)) :: trsOf ps
  | _ => []
theorem tM_le {x : E} {e : Expr} (h : PE X e (tM W (evE D F x))) : PE X e (tV W fun ε => vlR (evE D F x ε)) := PE.imp h fun σ H Q q => tM_V q
theorem mergeK_rep : ∀ {ks : List (Key × Val)} {vs : List (Key × V)} {acc : List (Key × Val)} {bs : List (Key × V)}, RepK W G ks vs → RepK W G acc bs → RepK W G (ks.foldl (fun a kv => dput a kv.1 kv.2) acc) (mergeK bs vs)
  | [], _, _, _, .nil, r => r
  | _ :: ks, _ :: vs, _, _, .cons q t, r => mergeK_rep (ks := ks) (vs := vs) t (r.put q)
theorem pairs_t : ∀ (ps : Es) {ε : Env} {acc kvs : List (Key × Val)} {H G : Hp} {Q : List (V × V) → Hp → Prop}, Rel W ε σ H G → evD D F ps ε acc = some (kvs, ε') →
    (∀ vs ks H' G', Stp W ε σ H G ε' H' G' → RepK W G' ks vs → kvs = ks.foldl (fun a kv => dput a kv.1 kv.2) acc → ks.length = (trsOf W D F ps).length → Q (vs.map fun kv => (kV kv.1, kv.2)) H') → tPairs (trsOf W D F ps) σ H Q
  | .nil, ε, acc, kvs, H, G, Q, rel, e, hQ => by
    unfold evD at e
    cases e
    exact hQ [] [] _ _ (.refl rel) .nil rfl rfl
  | .cons k .nil, ε, acc, kvs, H, G, Q, rel, e, hQ => by unfold evD at e; cases e
  | .cons k (.cons v ps), ε, acc, kvs, H, G, Q, rel, e, hQ => by
    unfold evD at e
    split at e
    · rename_i d ε1 e1
      split at e
      · rename_i kk ek
        split at e
        · rename_i x ε2 e2
          refine ⟨G, ε, d, ε1, rel, e1, fun u H1 G1 s1 k1 => ⟨G1, ε1, x, ε2, s1.rel, e2, fun w H2 G2 s2 k2 => ?_⟩⟩
          refine pairs_t ps s2.rel e fun vs ks H' G' s3 rr ef el => ?_
          have eu : u = kV kk := by cases k1 <;> cases ek <;> rfl
          rw [eu]
          exact hQ ((kk, w) :: vs) ((kk, x) :: ks) H' G' ((s1.trans s2).trans s3) (.cons (k2.mono s3.grow) rr) ef (by simp [trsOf, el])
        · cases e
      · cases e
    · cases e
def evenEs : Es → Bool
  | .nil => true
  | .cons _ (.cons _ ps) => evenEs ps
  | _ => false
theorem e_dsp {keys : List (Option Expr)} {values : List Expr} {ps : Es} {pos : Pos} (h : PPs X pos keys values (trsOf W D F ps)) (hall : keys.all (·.isSome) = true) (hl : keys.length = values.length) (h0 : keys ≠ []) (h15 : keys.length ≤ 15) (hn : (trsOf W D F ps).length = keys.length) :
    PE X (.Dict keys values pos) (tM W (evE D F (.dsp ps))) := PE.imp (pe_disp h hall hl h0 h15) fun σ H Q q => by
  obtain ⟨G, ε, r, ε1, rel, hm, hQ⟩ := q
  unfold evE at hm
  split at hm
  · rename_i kvs ε0 e0
    cases hm
    intro p hp
    have z := ast_own (o := .dK []) rel.sub hp
    have s0 := z.stp rel
    refine pairs_t ps s0.rel e0 fun vs ks H' G' s rr ef el => ?_
    have s1 := s0.trans s
    have gp : G p = none := sub_none rel.sub hp
    have n : ∀ {e : Env}, (OA e σ p → OA ε σ p) → ¬ OA e σ p := fun h z => by
      obtain ⟨u, hu⟩ := rel.there (h z)
      rw [hp] at hu; cases hu
    have n0 : ¬ OA ε σ p := n id
    refine ⟨s.keep p _ upd_same n0, vs, rfl, by rw [← rr.length, el, hn]; exact h15, ?_⟩
    have gp' : G' p = none := (s.newG p _ upd_same n0).trans gp
    have s2 := s1.wr (o := .dK (mergeK [] vs)) hp gp' (n (s1.oa p))
    refine hQ _ _ _ s2 ⟨p, rfl, ⟨gp', _, upd_same, ?_⟩, n (s1.oa p), hp⟩
    rw [ef]
    exact mergeK_rep rr .nil
  · cases hm
theorem e_dsp0 {pos : Pos} : PE X (.Dict [] [] pos) (tM W (evE D F (.dsp .nil))) := PE.imp pe_dnewK fun σ H Q q => by
  obtain ⟨G, ε, r, ε1, rel, hm, hQ⟩ := q
  unfold evE at hm
  unfold evD at hm
  cases hm
  intro p hp
  obtain ⟨a, b⟩ := AR.fin rel (AR.newDct (W := W) rel.sub hp .nil)
  exact hQ _ _ _ a b
end

/-! ### names -/
structure Cn where
  fns : List (Str × Nat)
  clss : List (Str × Nat)
  cons : List (Str × Val)
/-- the built-in functions and types that are looked for -/
def bltNs : List Str := ["len", "tuple", "list", "int", "abs", "divmod", "max", "min", "sum", "all", "any", "sorted", "isinstance", "range", "enumerate", "zip", "bool", "str", "dict"]
structure Pg (W : Wr) (D : Tbl) (F : FT) (lv : Nat) (cn : Cn) (X : Cx) : Prop where
  fns : ∀ x f, cn.fns.lookup x = some f → ∃ a, X.mg x = some (.ref a) ∧ FnAt X W F lv f a
  clss : ∀ x c, cn.clss.lookup x = some c → X.mg x = some (.ref (W.C c)) ∧ ∃ C, D.cls[c]? = some C ∧ MkAt X W D F lv c C
  cons : ∀ x d, cn.cons.lookup x = some d → ∃ v u, X.mg x = some u ∧ RelV v u ∧ ∀ G, Rep W G d v
  blt : ∀ x ∈ bltNs, X.mg x = none
  meth : MethF X W D F lv
  isf : IsF X.K W D.cls.length
  fld : ClsF W D
  kd : KdOk W X.w D.kds
/-- a context that the little language serves -/
structure CxOk (W : Wr) (D : Tbl) (F : FT) (lv : Nat) (cn : Cn) (N : List Str) (X : Cx) (sc : Scope) : Prop where
  K : X.K = W.K
  nd : N.Nodup
  N : X.N = N
  calm : X.calm = true
  sc : X.env.scope = sc
  room : Room (lv + 1) X.A
  pg : Pg W D F lv cn X
theorem FnAt.blk {W : Wr} {F : FT} {lv f : Nat} {a : Addr} {X : Cx} {s : Shared} {H : Hp} {scope : Scope} {cenv : PySem.Env} {fp : List Addr} (h : FnAt X W F lv f a) : FnAt (X.blk s H scope cenv fp) W F lv f a := ⟨h.ex⟩
theorem Pg.blk {W : Wr} {D : Tbl} {F : FT} {lv : Nat} {cn : Cn} {X : Cx} {s : Shared} {H : Hp} {scope : Scope} {cenv : PySem.Env} {fp : List Addr} (p : Pg W D F lv cn X) : Pg W D F lv cn (X.blk s H scope cenv fp) where
  fns := fun x f h => by
    obtain ⟨a, h1, h2⟩ := p.fns x f h
    exact ⟨a, h1, h2.blk⟩
  clss := fun x c h => by
    obtain ⟨h1, C, h2, ⟨a, h3, h4⟩⟩ := p.clss x c h
    exact ⟨h1, C, h2, ⟨a, h3, h4.blk⟩⟩
  cons := p.cons
  blt := p.blt
  meth := fun c C m f h1 h2 => by
    obtain ⟨a, b, h3, h4⟩ := p.meth c C m f h1 h2
    exact ⟨a, b, h3, h4.blk⟩
  isf := p.isf
  fld := p.fld
  kd := p.kd
theorem CxOk.blk {W : Wr} {D : Tbl} {F : FT} {lv : Nat} {cn : Cn} {N : List Str} {X : Cx} {sc scope : Scope} (c : CxOk W D F lv cn N X sc) (s : Shared) (H : Hp) (C : Addr) (cl : List (Str × Addr)) (fp : List Addr) :
    CxOk W D F lv cn N (X.blk s H scope (compEnvC scope cl C X.env) fp) (relS scope sc) :=
  ⟨c.K, c.nd, c.N, c.calm, by rw [← c.sc]; rfl, c.room, c.pg.blk⟩

/-! ### forms of the text -/
def noStar : Expr → Bool
  | .Starred .. => false
  | _ => true
def noSlice : Expr → Bool
  | .Slice .. => false
  | _ => true
def noSetE : Expr → Bool
  | .Set .. => false
  | _ => true
def okBase : Expr → Bool
  | .Call (.Name _ _) [] [] _ => false
  | _ => true
/-- not specially tested -/
def plainT : Expr → Bool
  | .UnaryOp .Not _ _ => false
  | .BoolOp .. => false
  | .IfExp .. => false
  | .Compare .. => false
  | _ => true
theorem star_cons {e : Expr} {es : List Expr} {env : PySem.Env} (h : noStar e = true) : starEach (e :: es) env = (false, eval e env) :: starEach es env := by
  cases e <;> first | rfl | cases h
theorem star_any {pos : Pos} {env : PySem.Env} : ∀ {es : List Expr}, es.all noStar = true → (backTo pos (starEach es env)).any (·.1) = false
  | [], _ => rfl
  | e :: es, h => by
    simp only [List.all_cons, Bool.and_eq_true] at h
    rw [star_cons h.1]
    show (false || (backTo pos (starEach es env)).any (·.1)) = false
    rw [star_any h.2]; rfl
theorem star_all {pos : Pos} {env : PySem.Env} : ∀ {es : List Expr}, es.all noStar = true → (backTo pos (starEach es env)).all (fun x => !x.1) = true
  | [], _ => rfl
  | e :: es, h => by
    simp only [List.all_cons, Bool.and_eq_true] at h
    rw [star_cons h.1]
    show (true && (backTo pos (starEach es env)).all (fun x => !x.1)) = true
    rw [star_all h.2]; rfl
theorem base_ok {o : Expr} {m : Str} {env : PySem.Env} {w : Sem Value} (h : okBase o = true) : attributeBase o m env w = w := by
  unfold attributeBase
  split
  · cases h
  · rfl
theorem plainIx {b : Expr} (h : noSlice b = true) : PlainIx b := by
  intro o i
  cases b <;> first | rfl | cases h
theorem isTrue_of {e : Expr} {env : PySem.Env} (h : plainT e = true) (whole : Sem Value) : isTrue e env whole = (do let v ← whole; standAt e.pos; holding [v] (truthy v)) := by
  cases e <;> first
    | rfl
    | (cases h; done)
    | (rename_i op a p; cases op <;> first | rfl | cases h)
theorem folded_of {e : Expr} {env : PySem.Env} (h : noSetE e = true) (x : Value) : foldedSetIterable e env x = pure x := by
  cases e <;> first | rfl | cases h
theorem noMark {op : CmpOp} {b : Expr} (h : noSetE b = true) : behindInMarks op b = false := by
  cases b <;> first | rfl | cases h
/-- o.m(..) as a method call -/
theorem meth_eval {o : Expr} {m : Str} {apos pos : Pos} {es : List Expr} {env : PySem.Env} (ho : okBase o = true) (hs : es.all noStar = true) (hz : es.length < 30) (hl : (apos.endLine == pos.line) = true) :
    eval (.Call (.Attribute o m apos) es [] pos) env = (do
      let ov ← eval o env
      standAt apos.atName
      let (f, first) ← holding [ov] (getMethod ov m (do return (← importBound o env).getD true))
      callWith pos f first (backTo pos (starEach es env)) (backToKw pos (keywordEach [] env))) := by
  have hf : methodCallForm (es.length + ([] : List Keyword).length) (backTo pos (starEach es env)) (backToKw pos (keywordEach [] env)) = true := by
    unfold methodCallForm
    rw [star_all hs]
    have : decide (es.length + ([] : List Keyword).length + 0 < 30) = true := by simpa using hz
    simpa [backToKw, keywordEach] using hz
  show (do
    let ov ← attributeBase o m env (eval o env)
    standAt apos.atName
    methodCall o m apos pos env ov (es.length + ([] : List Keyword).length) (backTo pos (starEach es env)) (backToKw pos (keywordEach [] env))) = _
  rw [base_ok ho]
  unfold methodCall
  rw [hf]
  have hp : methodCallPos true o env apos pos = pure pos := by
    unfold methodCallPos
    rw [hl]; rfl
  rw [hp]
  rfl
end Eng
end
section
set_option Elab.async false
set_option linter.all false
set_option maxRecDepth 100000
set_option maxHeartbeats 4000000
/-! ER: expressions translated; the translation is sound. -/
namespace Eng
open PySem PySem.Spec PyProof.Rows L2 RZ
def idxN : List Str → Str → Option Nat
  | [], _ => none
  | y :: ys, x => if y = x then some 0 else match idxN ys x with
    | some i => some (i + 1)
    | none => none
theorem idxN_get : ∀ {N : List Str} {x : Str} {i : Nat}, idxN N x = some i → N[i]? = some x
  | [], _, _, h => by cases h
  | y :: ys, x, i, h => by
    unfold idxN at h
    split at h
    · rename_i e
      cases h
      rw [e]; rfl
    · split at h
      · rename_i j e
        cases h
        show ys[j]? = some x
        exact idxN_get (N := ys) e
      · cases h
def visB (sc : Scope) (x : Str) : Bool := match sc.names.lookup x with
  | some .local => true
  | some .cell => true
  | some .free => true
  | _ => false
theorem vis_of {sc : Scope} {x : Str} (h : visB sc x = true) : Vis sc x := by
  unfold visB at h
  split at h
  · exact .inl (by assumption)
  · exact .inr (.inl (by assumption))
  · exact .inr (.inr (by assumption))
  · cases h
def glB (sc : Scope) (x : Str) : Bool := decide (sc.names.lookup x = some .globalImplicit)
def stoB (sc : Scope) (x : Str) : Bool := match sc.names.lookup x with
  | some .local => true
  | some .cell => true
  | _ => false
def dbgB (x : Str) : Bool := (x == ("__debug__" : Str)) || (x == ("__classdict__" : Str)) || decide (x = "__name__")
def cM (f : Expr → Option E) : List Expr → Option (List E)
  | [] => some []
  | e :: es => match f e with
    | some x => match cM f es with
      | some xs => some (x :: xs)
      | none => none
    | none => none
def toEs : List E → Es
  | [] => .nil
  | x :: xs => .cons x (toEs xs)
def andL : List E → Option E
  | [] => none
  | [x] => some x
  | x :: y :: r => match andL (y :: r) with
    | some z => some (.and2 x z)
    | none => none
def orL : List E → Option E
  | [] => none
  | [x] => some x
  | x :: y :: r => match orL (y :: r) with
    | some z => some (.or2 x z)
    | none => none
def tgIx (N : List Str) (scope : Scope) : Expr → Option Nat
  | .Name x _ => if stoB scope x then idxN N x else none
  | _ => none
def tgIxs (N : List Str) (scope : Scope) : List Expr → Option (List Nat)
  | [] => some []
  | e :: es => match tgIx N scope e with
    | some i => match tgIxs N scope es with
      | some is => some (i :: is)
      | none => none
    | none => none
def cTg (N : List Str) (scope : Scope) : Expr → Option (List Nat)
  | .Name x p => match tgIx N scope (.Name x p) with
    | some i => some [i]
    | none => none
  | .Tuple es _ _ => match tgIxs N scope es with
    | some (i :: j :: is) => some (i :: j :: is)
    | _ => none
  | _ => none
def isTupE : Expr → Bool
  | .Tuple .. => true
  | _ => false
def mp {α β : Type} (g : α → β) : Option α → Option β
  | some a => some (g a)
  | none => none
def mp2 {α β γ : Type} (g : α → β → γ) : Option α → Option β → Option γ
  | some a, some b => some (g a b)
  | _, _ => none
theorem mp_some {α β : Type} {g : α → β} {o : Option α} {b : β} (h : mp g o = some b) : ∃ a, o = some a ∧ b = g a := by
  cases o with
  | none => cases h
  | some a => cases h; exact ⟨a, rfl, rfl⟩
theorem mp2_some {α β γ : Type} {g : α → β → γ} {o : Option α} {p : Option β} {c : γ} (h : mp2 g o p = some c) : ∃ a b, o = some a ∧ p = some b ∧ c = g a b := by
  cases o with
  | none => cases h
  | some a =>
    cases p with
    | none => cases h
    | some b => cases h; exact ⟨a, b, rfl, rfl, rfl⟩
def gd {α : Type} (b : Bool) (o : Option α) : Option α := if b then o else none
theorem gd_some {α : Type} {b : Bool} {o : Option α} {a : α} (h : gd b o = some a) : b = true ∧ o = some a := by
  unfold gd at h
  split at h
  · rename_i e; exact ⟨e, h⟩
  · cases h
def cItC (f : Expr → Option E) (tup : Bool) (x : Str) (args : List Expr) (e : Expr) : Option It :=
  if x = "range" then match args with
    | [a] => mp .rng1 (f a)
    | [a, b] => mp2 .rng2 (f a) (f b)
    | _ => none
  else if x = "enumerate" then match args with
    | [a] => gd tup (mp .enum (f a))
    | _ => none
  else if x = "zip" then match args with
    | [a, b] => gd tup (mp2 .zip (f a) (f b))
    | _ => none
  else mp .seq (f e)
def cIt (f : Expr → Option E) (sc : Scope) (tup : Bool) (e : Expr) : Option It := match e with
  | .Call (.Name x _) args [] _ => if glB sc x then gd (args.all noStar) (cItC f tup x args e) else mp .seq (f e)
  | e => gd (noSetE e) (mp .seq (f e))
def ownOf (N : List Str) : List (Str × NameKind) → List (Str × Nat)
  | [] => []
  | (n, k) :: r => match k with
    | .local => match idxN N n with
      | some i => (n, i) :: ownOf N r
      | none => ownOf N r
    | .cell => match idxN N n with
      | some i => (n, i) :: ownOf N r
      | none => ownOf N r
    | _ => ownOf N r
def tyIx (x : Str) : Option Nat :=
  if x = "int" then some 0 else if x = "bool" then some 1 else if x = "str" then some 2 else if x = "tuple" then some 3 else if x = "list" then some 4 else if x = "dict" then some 5 else none
def bltIx (x : Str) : Option Nat :=
  if x = "len" then some 0 else if x = "tuple" then some 1 else if x = "list" then some 2 else if x = "int" then some 3 else if x = "abs" then some 4 else if x = "divmod" then some 5 else if x = "max" then some 6 else if x = "min" then some 7
  else if x = "sum" then some 8 else if x = "all" then some 9 else if x = "any" then some 10 else if x = "sorted" then some 11 else none
def nIsi (cn : Cn) (sc : Scope) (f : Expr → Option E) : List Expr → Option E
  | [a, .Name t _] => gd (glB sc t && !dbgB t) (match tyIx t with
    | some k => mp (fun x => .isB x k) (f a)
    | none => match cn.clss.lookup t with
      | some c => mp (fun x => .isC x c) (f a)
      | none => none)
  | _ => none
def nCallN (cn : Cn) (sc : Scope) (f : Expr → Option E) (x : Str) (args : List Expr) : Option E :=
  if x = "isinstance" then nIsi cn sc f args
  else match cM f args with
    | none => none
    | some xs => match cn.fns.lookup x with
      | some i => some (.call i (toEs xs))
      | none => match cn.clss.lookup x with
        | some c => some (.make c (toEs xs))
        | none => match bltIx x with
          | some b => gd (!args.isEmpty) (some (.blt b (toEs xs)))
          | none => none
def strC : Expr → Option Str
  | .Constant (.str s) _ _ => some s
  | _ => none
def nMeth (f : Expr → Option E) (o : Expr) (m : Str) (args : List Expr) : Option E :=
  if m = "join" then match strC o, args with
    | some z, [e] => mp (fun y => .blt 20 (.cons (.lit (.str z)) (.cons y .nil))) (f e)
    | _, _ => none
  else if m = "get" then match args with
    | [e] => mp2 .dget1 (f o) (f e)
    | [e, g] => match mp2 .dget2 (f o) (f e) with
      | some h => mp h (f g)
      | none => none
    | _ => none
  else match f o, cM f args with
    | some x, some xs => some (.meth m x (toEs xs))
    | _, _ => none
def nCall (cn : Cn) (sc : Scope) (f : Expr → Option E) (fe : Expr) (args : List Expr) (pos : Pos) : Option E :=
  gd (args.all noStar && decide (args.length < 30)) (match fe with
    | .Name x _ => gd (glB sc x && !dbgB x) (nCallN cn sc f x args)
    | .Attribute o m apos => gd (okBase o && (apos.endLine == pos.line)) (nMeth f o m args)
    | _ => none)
def cOE (f : Expr → Option E) : Option Expr → Option OE
  | none => some .no
  | some e => mp .so (f e)
def cDct (f : Expr → Option E) : List (Option Expr) → List Expr → Option Es
  | [], [] => some .nil
  | some k :: ks, v :: vs => match f k, f v with
    | some x, some y => mp (fun r => .cons x (.cons y r)) (cDct f ks vs)
    | _, _ => none
  | _, _ => none
section
variable (cn : Cn) (N : List Str)
/-- a comprehension's clause -/
def cGen (f : Expr → Option E) (g : Expr → Option E) (sc scope : Scope) (tg iter : Expr) (ifs : List Expr) : Option (List Nat × It × Es × List Nat) :=
  gd (blkC N sc scope (ownOf N scope.names) && noSetE iter && decide (ifs.length ≤ 1)) (match cTg N scope tg, cIt f sc (isTupE tg) iter, cM g ifs with
    | some is, some it, some xs => gd (is.all fun i => ((ownOf N scope.names).map (·.2)).contains i) (some (is, it, toEs xs, (ownOf N scope.names).map (·.2)))
    | _, _, _ => none)
def cE : Nat → Scope → Expr → Option E
  | 0, _, _ => none
  | n + 1, sc, e => match e with
    | .Constant c _ _ => match c with
      | .int i => some (.lit (.int i))
      | .bool b => some (.lit (.bl b))
      | .none => some (.lit .non)
      | .str s => some (.lit (.str s))
      | _ => none
    | .Name x _ => gd (!dbgB x) (if visB sc x then mp .var (idxN N x) else gd (glB sc x) (mp .lit (cn.cons.lookup x)))
    | .BoolOp .And es _ => (match cM (cE n sc) es with
      | some xs => andL xs
      | none => none)
    | .BoolOp .Or es _ => (match cM (cE n sc) es with
      | some xs => orL xs
      | none => none)
    | .BinOp a op b _ => mp2 (.bin op) (cE n sc a) (cE n sc b)
    | .UnaryOp .USub a _ => mp .neg (cE n sc a)
    | .UnaryOp .Not a _ => mp .not (cE n sc a)
    | .IfExp c a b _ => match mp2 .ife (cE n sc c) (cE n sc a) with
      | some h => mp h (cE n sc b)
      | none => none
    | .Dict ks vs _ => gd (decide (ks.length ≤ 15)) (mp .dsp (cDct (cE n sc) ks vs))
    | .List es _ => gd (es.all noStar) (match cM (cE n sc) es with
      | some xs => gd (shortEs cap (toEs xs)) (some (.lst (toEs xs)))
      | none => none)
    | .Tuple es _ _ => gd (es.all noStar) (match cM (cE n sc) es with
      | some xs => gd (shortEs cap (toEs xs)) (some (.tup (toEs xs)))
      | none => none)
    | .ListComp elt [⟨tg, iter, ifs, 0⟩] scope _ => (match cGen N (cE n sc) (cE n (relS scope sc)) sc scope tg iter ifs, cE n (relS scope sc) elt with
      | some (is, it, xs, own), some y => some (.lc y is it xs own)
      | _, _ => none)
    | .DictComp k v [⟨tg, iter, ifs, 0⟩] scope _ => (match cGen N (cE n sc) (cE n (relS scope sc)) sc scope tg iter ifs, cE n (relS scope sc) k, cE n (relS scope sc) v with
      | some (is, it, xs, own), some y, some z => some (.dc y z is it xs own)
      | _, _, _ => none)
    | .Compare a [op] [b] _ => gd (noSetE b) (mp2 (.cmp op) (cE n sc a) (cE n sc b))
    | .Compare a [op, op'] [b, c] _ => gd (noSetE c) (match mp2 (.chn op op') (cE n sc a) (cE n sc b) with
      | some h => mp h (cE n sc c)
      | none => none)
    | .Call fe args [] pos => nCall cn sc (cE n sc) fe args pos
    | .Attribute o f _ => gd (okBase o) (mp (fun x => .fld x f) (cE n sc o))
    | .Subscript a (.Slice lo hi none _) _ => (match mp2 .slc (cE n sc a) (cOE (cE n sc) lo) with
      | some h => mp h (cOE (cE n sc) hi)
      | none => none)
    | .Subscript a i _ => gd (noSlice i) (mp2 .ix (cE n sc a) (cE n sc i))
    | _ => none
end
/-! ### sound -/
section
variable {W : Wr} {D : Tbl} {F : FT} {lv : Nat} {cn : Cn} {N : List Str} {X : Cx} {sc : Scope}
abbrev Oks (W : Wr) (D : Tbl) (F : FT) (X : Cx) : List Expr → List E → Prop := Paired (Ok W D F X)
theorem cM_ok {f : Expr → Option E} (IH : ∀ e x, f e = some x → Ok W D F X e x) : ∀ {es : List Expr} {xs : List E}, cM f es = some xs → Oks W D F X es xs
  | [], xs, h => by cases h; exact .nil
  | e :: es, xs, h => by
    unfold cM at h
    split at h
    · rename_i x ex
      split at h
      · rename_i xs' exs
        cases h
        exact .cons (IH _ _ ex) (cM_ok IH exs)
      · cases h
    · cases h
theorem fs_of : ∀ {es : List Expr} {xs : List E}, Oks W D F X es xs → es.all noStar = true → PA X es (tFs W (evF D F (toEs xs)))
  | _, _, .nil, _ => fs_nil
  | _, _, .cons h t, hs => by
    simp only [List.all_cons, Bool.and_eq_true] at hs
    exact fs_cons h.pe (fs_of t hs.2) (star_cons hs.1)
theorem as_of : ∀ {es : List Expr} {xs : List E}, Oks W D F X es xs → es.all noStar = true → PA X es (tAs W (evA D F (toEs xs)))
  | _, _, .nil, _ => as_nil
  | _, _, .cons h t, hs => by
    simp only [List.all_cons, Bool.and_eq_true] at hs
    exact as_cons h.pe (as_of t hs.2) (star_cons hs.1)
theorem and_of (hK : X.K = W.K) {pos : Pos} : ∀ {es : List Expr} {xs : List E} {x : E}, Oks W D F X es xs → andL xs = some x → PE X (.BoolOp .And es pos) (tM W (evE D F x)) ∧ PW X (.BoolOp .And es pos) (tTr W fun ε => tsR (evE D F x ε))
  | _, _, _, .nil, h => by cases h
  | _, _, _, .cons a .nil, h => by
    cases h
    exact ⟨pe_one a.pe, pw_and1 a.pt⟩
  | _, _, _, .cons a (.cons b t), h => by
    unfold andL at h
    split at h
    · rename_i z e
      cases h
      obtain ⟨h1, h2⟩ := and_of hK (.cons b t) e
      exact e_and hK a h1 h2
    · cases h
theorem or_of (hK : X.K = W.K) {pos : Pos} : ∀ {es : List Expr} {xs : List E} {x : E}, Oks W D F X es xs → orL xs = some x → PE X (.BoolOp .Or es pos) (tM W (evE D F x)) ∧ PW X (.BoolOp .Or es pos) (tTr W fun ε => tsR (evE D F x ε))
  | _, _, _, .nil, h => by cases h
  | _, _, _, .cons a .nil, h => by
    cases h
    exact ⟨pe_one a.pe, pw_or1 a.pt⟩
  | _, _, _, .cons a (.cons b t), h => by
    unfold orL at h
    split at h
    · rename_i z e
      cases h
      obtain ⟨h1, h2⟩ := or_of hK (.cons b t) e
      exact e_or hK a h1 h2
    · cases h
theorem gl_of (c : CxOk W D F lv cn N X sc) {x : Str} (h : glB sc x = true) : Gl X x := by
  show X.env.scope.names.lookup x = _
  rw [c.sc]
  exact of_decide_eq_true h
theorem dbg_of {x : Str} (h : (!dbgB x) = true) : (x == ("__debug__" : Str)) = false ∧ (x == ("__classdict__" : Str)) = false ∧ x ≠ "__name__" := by
  unfold dbgB at h
  simp only [Bool.not_eq_true', Bool.or_eq_false_iff, decide_eq_false_iff_not] at h
  exact ⟨h.1.1, h.1.2, h.2⟩
theorem CxOk.u64 (c : CxOk W D F lv cn N X sc) : X.A.units + 64 < cLine := c.room.units
theorem CxOk.u1 (c : CxOk W D F lv cn N X sc) : X.A.units + 1 < cLine := by have := c.room.units; omega
/-- iterators -/
theorem cIt_ok (c : CxOk W D F lv cn N X sc) {f : Expr → Option E} (IH : ∀ e x, f e = some x → Ok W D F X e x) {tg e : Expr} {it : It} (h : cIt f sc (isTupE tg) e = some it) : PI X tg e (tIt W (evI D F it)) := by
  have sq : ∀ {e : Expr} {it : It}, mp It.seq (f e) = some it → PI X tg e (tIt W (evI D F it)) := fun {e it} h => by
    obtain ⟨x, ex, rfl⟩ := mp_some h
    exact pi_seqE c.K (IH _ _ ex).pe
  have nm : ∀ {x : Str}, x ∈ bltNs → X.mg x = none := fun {x} h => c.pg.blt x h
  unfold cIt at h
  split at h
  · rename_i x p args pos
    split at h
    · rename_i hg
      have g := gl_of c hg
      obtain ⟨hs, h1⟩ := gd_some h
      clear h
      unfold cItC at h1
      split at h1
      · rename_i e; subst e
        split at h1
        · rename_i a
          obtain ⟨y, ey, rfl⟩ := mp_some h1
          simp only [List.all_cons, List.all_nil, Bool.and_eq_true] at hs
          exact pi_rng1 g (nm (by decide)) (IH _ _ ey).pe (star_cons hs.1)
        · rename_i a b
          obtain ⟨y, z, ey, ez, rfl⟩ := mp2_some h1
          simp only [List.all_cons, List.all_nil, Bool.and_eq_true] at hs
          exact pi_rng2 g (nm (by decide)) (IH _ _ ey).pe (IH _ _ ez).pe (by rw [star_cons hs.1, star_cons hs.2.1]; rfl) (star_cons hs.2.1)
        · cases h1
      · split at h1
        · rename_i e; subst e
          split at h1
          · rename_i a
            obtain ⟨ht, h2⟩ := gd_some h1
            obtain ⟨y, ey, rfl⟩ := mp_some h2
            simp only [List.all_cons, List.all_nil, Bool.and_eq_true] at hs
            cases tg <;> try (cases ht; done)
            exact pi_enumE c.K g (nm (by decide)) (IH _ _ ey).pe (star_cons hs.1)
          · cases h1
        · split at h1
          · rename_i e; subst e
            split at h1
            · rename_i a b
              obtain ⟨ht, h2⟩ := gd_some h1
              obtain ⟨y, z, ey, ez, rfl⟩ := mp2_some h2
              have hs' := hs
              simp only [List.all_cons, List.all_nil, Bool.and_eq_true] at hs
              cases tg <;> try (cases ht; done)
              exact pi_zipE c.K g (nm (by decide)) (IH _ _ ey).pe (IH _ _ ez).pe (star_cons hs.1) (star_cons hs.2.1) (star_any (by simp [hs.2.1]))
            · cases h1
          · exact sq h1
    · exact sq h
  · obtain ⟨_, h⟩ := gd_some h
    exact sq h
/-- targets; raw: the scope as it is written -/
structure StOk (X : Cx) (raw : Scope) : Prop where
  st : ∀ x, stoB raw x = true → Loc X.env.scope x ∧ (X.fn x = true ∨ X.env.scope.names.lookup x = some .local)
theorem tgIx_ok (hN : X.N = N) (nd : N.Nodup) {raw : Scope} (s : StOk X raw) {e : Expr} {i : Nat} (h : tgIx N raw e = some i) : PG X e (gName i) ∧ (∃ x p, e = .Name x p ∧ X.N[i]? = some x ∧ stoB raw x = true) := by
  cases e <;> try (cases h; done)
  rename_i x p
  simp only [tgIx] at h
  split at h
  · rename_i hs
    have hi : X.N[i]? = some x := by rw [hN]; exact idxN_get h
    exact ⟨pg_name (by rw [hN]; exact nd) hi (s.st x hs).1 (s.st x hs).2, x, p, rfl, hi, hs⟩
  · cases h
theorem tgIxs_ok (hN : X.N = N) (nd : N.Nodup) {raw : Scope} (s : StOk X raw) : ∀ {es : List Expr} {is : List Nat}, tgIxs N raw es = some is → PGs X es (gNs W is) ∧ (assignEach es X.env).length = is.length ∧ (assignEach es X.env).findIdx? (·.1) = none
  | [], is, h => by
    cases h
    exact ⟨PGs.imp pgs_nil fun v σ H Q q => gNs_nil q, rfl, rfl⟩
  | e :: es, is, h => by
    unfold tgIxs at h
    split at h
    · rename_i i ei
      split at h
      · rename_i is' eis
        cases h
        obtain ⟨h1, x, p, rfl, _, _⟩ := tgIx_ok hN nd s ei
        obtain ⟨h2, h3, h4⟩ := tgIxs_ok hN nd s eis
        have ea : assignEach (.Name x p :: es) X.env = (false, assign (.Name x p) X.env) :: assignEach es X.env := rfl
        refine ⟨PGs.imp (pgs_cons h1 h2 rfl) fun v σ H Q q => gNs_cons q, by rw [ea]; simp [h3], ?_⟩
        rw [ea, List.findIdx?_cons]
        simp [h4]
      · cases h
    · cases h
theorem cTg_ok (hK : X.K = W.K) (hN : X.N = N) (nd : N.Nodup) (hc : X.calm = true) {raw : Scope} (s : StOk X raw) {e : Expr} {is : List Nat} (h : cTg N raw e = some is) : PG X e (gN W is) := by
  cases e <;> try (cases h; done)
  · rename_i x p
    simp only [cTg] at h
    split at h
    · rename_i i ei
      cases h
      exact PG.imp (tgIx_ok hN nd s ei).1 fun v σ H Q q => gN_one q
    · cases h
  · rename_i es k p
    simp only [cTg] at h
    split at h
    · rename_i i j is' e
      cases h
      obtain ⟨h1, h2, h3⟩ := tgIxs_ok (W := W) hN nd s e
      exact PG.imp (pg_tup hc h1 h2 h3) fun v σ H Q q => gN_tup hK q
    · cases h
theorem blk_st {s : Shared} {H : Hp} {scope : Scope} {C : Addr} {cl : List (Str × Addr)} {fp : List Addr} : StOk (X.blk s H scope (compEnvC scope cl C X.env) fp) scope := by
  refine ⟨fun x h => ?_⟩
  have hsc : (X.blk s H scope (compEnvC scope cl C X.env) fp).env.scope = relS scope X.env.scope := rfl
  rw [hsc]
  unfold stoB at h
  split at h
  · rename_i e
    have := lookup_relS_keep (sc := X.env.scope) (by decide : NameKind.local ≠ .free) e
    exact ⟨.inl this, .inr this⟩
  · rename_i e
    have := lookup_relS_keep (sc := X.env.scope) (by decide : NameKind.cell ≠ .free) e
    refine ⟨.inr this, .inl ?_⟩
    show (scope.names.lookup x == some .cell) = true
    rw [e]; rfl
  · cases h
/-- a comprehension's tests -/
theorem ifs_ok {xs : List E} {es : List Expr} (h : Oks W D F X es xs) (hl : es.length ≤ 1) : PTs X es (tTr W (evTs D F (toEs xs))) := by
  cases h with
  | nil =>
    refine PTs.imp pts_nil fun σ H Q q => ?_
    obtain ⟨G, ε, r, ε1, rel, hm, hQ⟩ := q
    unfold toEs at hm
    unfold evTs at hm
    cases hm
    exact hQ _ _ (.refl rel)
  | cons a t =>
    cases t with
    | nil =>
      refine PTs.imp (pts_one a.pt) fun σ H Q q => ?_
      obtain ⟨G, ε, r, ε1, rel, hm, hQ⟩ := q
      simp only [toEs, evTs] at hm
      exact ⟨G, ε, r, ε1, rel, hm, hQ⟩
    | cons b t => simp at hl
end
end Eng
end
section
set_option Elab.async false
set_option linter.all false
set_option maxRecDepth 100000
set_option maxHeartbeats 4000000
/-! ES: the translation of expressions is sound. -/
namespace Eng
open PySem PySem.Spec PyProof.Rows L2 RZ
section
variable {W : Wr} {D : Tbl} {F : FT} {lv : Nat} {cn : Cn} {N : List Str} {X : Cx} {sc : Scope}
theorem e_ty {t : Str} {k : Nat} {p : Pos} (hg : Gl X t) (hm : ∀ x ∈ bltNs, X.mg x = none) (h : tyIx t = some k) : PE X (.Name t p) (tC (.ty (tyN k))) := by
  unfold tyIx at h
  split at h
  · rename_i e; subst e; cases h; exact pe_bltn hg (hm _ (by decide)) (u := .type "int") (by rfl) rfl
  · split at h
    · rename_i e; subst e; cases h; exact pe_bltn hg (hm _ (by decide)) (u := .type "bool") (by rfl) rfl
    · split at h
      · rename_i e; subst e; cases h; exact pe_bltn hg (hm _ (by decide)) (u := .type "str") (by rfl) rfl
      · split at h
        · rename_i e; subst e; cases h; exact pe_bltn hg (hm _ (by decide)) (u := .type "tuple") (by rfl) rfl
        · split at h
          · rename_i e; subst e; cases h; exact pe_bltn hg (hm _ (by decide)) (u := .type "list") (by rfl) rfl
          · split at h
            · rename_i e; subst e; cases h; exact pe_bltn hg (hm _ (by decide)) (u := .type "dict") (by rfl) rfl
            · cases h
theorem nIsi_ok (c : CxOk W D F lv cn N X sc) {f : Expr → Option E} (IH : ∀ e x, f e = some x → Ok W D F X e x) {args : List Expr} {x : E} {p pos : Pos} (hs : args.all noStar = true) (hg : glB sc "isinstance" = true) (h : nIsi cn sc f args = some x) :
    PE X (.Call (.Name "isinstance" p) args [] pos) (tM W (evE D F x)) := by
  have g := gl_of c hg
  unfold nIsi at h
  split at h
  · rename_i a t p2
    obtain ⟨h1, h2⟩ := gd_some h
    simp only [Bool.and_eq_true] at h1
    simp only [List.all_cons, List.all_nil, Bool.and_eq_true] at hs
    have gt := gl_of c h1.1
    have s1 : starEach [a, .Name t p2] X.env = (false, eval a X.env) :: starEach [.Name t p2] X.env := star_cons hs.1
    have s2 : starEach [.Name t p2] X.env = (false, eval (.Name t p2) X.env) :: starEach [] X.env := rfl
    split at h2
    · rename_i k ek
      obtain ⟨y, ey, rfl⟩ := mp_some h2
      exact e_isB c.K c.pg.isf g (c.pg.blt _ (by decide)) (by rfl) k (IH _ _ ey).pe (e_ty gt c.pg.blt ek) s1 s2 (by rfl)
    · split at h2
      · rename_i k ek
        obtain ⟨y, ey, rfl⟩ := mp_some h2
        obtain ⟨hm, _⟩ := c.pg.clss _ _ ek
        exact e_isC c.K c.pg.isf g (c.pg.blt _ (by decide)) (by rfl) k (IH _ _ ey).pe (pe_glob gt hm rfl (dbg_of h1.2).1) s1 s2 (by rfl)
      · cases h2
  · cases h
theorem blt_ok (c : CxOk W D F lv cn N X sc) {e : Expr} {es : List Expr} {xs : Es} {x : Str} {b : Nat} {p pos : Pos} (hs : (e :: es).all noStar = true) (hg : glB sc x = true) (ha : PA X (e :: es) (tAs W (evA D F xs))) (h : bltIx x = some b) :
    PE X (.Call (.Name x p) (e :: es) [] pos) (tM W (evE D F (.blt b xs))) := by
  have g := gl_of c hg
  simp only [List.all_cons, Bool.and_eq_true] at hs
  have s1 : starEach (e :: es) X.env = (false, eval e X.env) :: starEach es X.env := star_cons hs.1
  have s2 : (backTo pos (starEach es X.env)).any (·.1) = false := star_any hs.2
  unfold bltIx at h
  split at h
  · rename_i q; subst q; cases h
    exact e_bltB (f := bLen) (fun _ => rfl) (blt_len c.K) g (c.pg.blt _ (by decide)) (by rfl) ha (by decide) (by decide) s1 s2
  · split at h
    · rename_i q; subst q; cases h
      exact e_bltT (f := bTup) (fun _ => rfl) (blt_tup c.K) g (c.pg.blt _ (by decide)) (by rfl) ha (by decide) (by decide) s1 s2
    · split at h
      · rename_i q; subst q; cases h
        exact e_bltT (f := bLst) (fun _ => rfl) (blt_lst c.K c.calm) g (c.pg.blt _ (by decide)) (by rfl) ha (by decide) (by decide) s1 s2
      · split at h
        · rename_i q; subst q; cases h
          exact e_bltT (f := bInt) (fun _ => rfl) blt_int g (c.pg.blt _ (by decide)) (by rfl) ha (by decide) (by decide) s1 s2
        · split at h
          · rename_i q; subst q; cases h
            exact e_bltB (f := bAbs) (fun _ => rfl) blt_abs g (c.pg.blt _ (by decide)) (by rfl) ha (by decide) (by decide) s1 s2
          · split at h
            · rename_i q; subst q; cases h
              exact e_bltB (f := bDivmod) (fun _ => rfl) blt_divmod g (c.pg.blt _ (by decide)) (by rfl) ha (by decide) (by decide) s1 s2
            · split at h
              · rename_i q; subst q; cases h
                exact e_bltB (f := bMax) (fun _ => rfl) (blt_max c.calm) g (c.pg.blt _ (by decide)) (by rfl) ha (by decide) (by decide) s1 s2
              · split at h
                · rename_i q; subst q; cases h
                  exact e_bltB (f := bMin) (fun _ => rfl) (blt_min c.calm) g (c.pg.blt _ (by decide)) (by rfl) ha (by decide) (by decide) s1 s2
                · split at h
                  · rename_i q; subst q; cases h
                    exact e_bltB (f := bSum) (fun _ => rfl) (blt_sum c.calm) g (c.pg.blt _ (by decide)) (by rfl) ha (by decide) (by decide) s1 s2
                  · split at h
                    · rename_i q; subst q; cases h
                      exact e_bltB (f := bAll) (fun _ => rfl) (blt_all c.calm) g (c.pg.blt _ (by decide)) (by rfl) ha (by decide) (by decide) s1 s2
                    · split at h
                      · rename_i q; subst q; cases h
                        exact e_bltB (f := bAny) (fun _ => rfl) (blt_any c.calm) g (c.pg.blt _ (by decide)) (by rfl) ha (by decide) (by decide) s1 s2
                      · split at h
                        · rename_i q; subst q; cases h
                          exact e_bltB (f := bSorted) (fun _ => rfl) blt_sorted g (c.pg.blt _ (by decide)) (by rfl) ha (by decide) (by decide) s1 s2
                        · cases h
theorem nCallN_ok (c : CxOk W D F lv cn N X sc) {f : Expr → Option E} (IH : ∀ e x, f e = some x → Ok W D F X e x) {args : List Expr} {n : Str} {x : E} {p pos : Pos} (hs : args.all noStar = true) (hg : glB sc n = true) (hd : (!dbgB n) = true) (h : nCallN cn sc f n args = some x) :
    PE X (.Call (.Name n p) args [] pos) (tM W (evE D F x)) := by
  have g := gl_of c hg
  have d := dbg_of hd
  unfold nCallN at h
  split at h
  · rename_i e; subst e
    exact nIsi_ok c IH hs hg h
  · split at h
    · cases h
    · rename_i xs exs
      have oks := cM_ok IH exs
      have ha := as_of oks hs
      split at h
      · rename_i i ei
        cases h
        obtain ⟨a, hm, A⟩ := c.pg.fns _ _ ei
        cases oks with
        | nil => exact e_call0 A (c.room.mono (Nat.le_succ _)) g hm d.1
        | cons o t =>
          simp only [List.all_cons, Bool.and_eq_true] at hs
          exact e_call A (c.room.mono (Nat.le_succ _)) g hm ha d.1 (star_cons hs.1) (star_any hs.2)
      · split at h
        · rename_i k ek
          cases h
          obtain ⟨hm, C, hC, mk⟩ := c.pg.clss _ _ ek
          cases oks with
          | nil => exact e_make0 hC mk c.room g hm d.1
          | cons o t =>
            simp only [List.all_cons, Bool.and_eq_true] at hs
            exact e_make hC mk c.room g hm ha d.1 (star_cons hs.1) (star_any hs.2)
        · split at h
          · rename_i b eb
            obtain ⟨hne, h1⟩ := gd_some h
            cases h1
            cases args with
            | nil => cases hne
            | cons e es => exact blt_ok c hs hg ha eb
          · cases h
theorem nMeth_ok (c : CxOk W D F lv cn N X sc) {f : Expr → Option E} (IH : ∀ e x, f e = some x → Ok W D F X e x) {o : Expr} {args : List Expr} {m : Str} {x : E} {apos pos : Pos} (hs : args.all noStar = true) (hz : args.length < 30) (hb : okBase o = true) (hl : (apos.endLine == pos.line) = true)
    (h : nMeth f o m args = some x) : PE X (.Call (.Attribute o m apos) args [] pos) (tM W (evE D F x)) := by
  unfold nMeth at h
  split at h
  · rename_i e; subst e
    split at h
    · rename_i z e ez
      obtain ⟨y, ey, rfl⟩ := mp_some h
      simp only [List.all_cons, List.all_nil, Bool.and_eq_true] at hs
      have ho : PE X o (tM W (evE D F (.lit (.str z)))) := by
        unfold strC at ez
        split at ez
        · cases ez
          exact e_c pe_str fun _ => .str _
        · cases ez
      exact e_join c.K ho (IH _ _ ey).pe (star_cons hs.1) (base_ok hb) hl
    · cases h
  · split at h
    · rename_i e; subst e
      split at h
      · rename_i e
        obtain ⟨y, z, ey, ez, rfl⟩ := mp2_some h
        simp only [List.all_cons, List.all_nil, Bool.and_eq_true] at hs
        exact e_get1 c.u1 (IH _ _ ey).pe (IH _ _ ez).pe ⟨base_ok hb, by rw [star_cons hs.1]; rfl, hl, by rw [star_cons hs.1]; rfl⟩
      · rename_i e g
        split at h
        · rename_i k ek
          obtain ⟨y, z, ey, ez, rfl⟩ := mp2_some ek
          obtain ⟨w, ew, rfl⟩ := mp_some h
          simp only [List.all_cons, List.all_nil, Bool.and_eq_true] at hs
          exact e_get2 c.u1 (IH _ _ ey).pe (IH _ _ ez).pe (IH _ _ ew).pe ⟨base_ok hb, by rw [star_cons hs.1, star_cons hs.2.1]; rfl, hl, by rw [star_cons hs.1, star_cons hs.2.1]; rfl⟩
        · cases h
      · cases h
    · split at h
      · rename_i y xs ey exs
        cases h
        have oks := cM_ok IH exs
        have ha := as_of oks hs
        cases oks with
        | nil => exact e_meth0 c.K c.pg.meth (c.room.mono (Nat.le_succ _)) (IH _ _ ey).pe (meth_eval hb hs hz hl)
        | cons o t =>
          have hs' := hs
          simp only [List.all_cons, Bool.and_eq_true] at hs
          exact e_meth c.K c.pg.meth (c.room.mono (Nat.le_succ _)) (IH _ _ ey).pe ha (star_cons hs.1) (star_any hs.2) (meth_eval hb hs' hz hl)
      · cases h
theorem nCall_ok (c : CxOk W D F lv cn N X sc) {f : Expr → Option E} (IH : ∀ e x, f e = some x → Ok W D F X e x) {fe : Expr} {args : List Expr} {x : E} {pos : Pos} (h : nCall cn sc f fe args pos = some x) : PE X (.Call fe args [] pos) (tM W (evE D F x)) := by
  obtain ⟨h1, h2⟩ := gd_some h
  simp only [Bool.and_eq_true, decide_eq_true_eq] at h1
  split at h2
  · obtain ⟨h3, h4⟩ := gd_some h2
    simp only [Bool.and_eq_true] at h3
    exact nCallN_ok c IH h1.1 h3.1 h3.2 h4
  · obtain ⟨h3, h4⟩ := gd_some h2
    simp only [Bool.and_eq_true] at h3
    exact nMeth_ok c IH h1.1 h1.2 h3.1 h3.2 h4
  · cases h2
theorem cOE_ok {f : Expr → Option E} (IH : ∀ e x, f e = some x → Ok W D F X e x) {o : Option Expr} {x : OE} (h : cOE f o = some x) : PO X o (tO W D F x) := by
  cases o with
  | none => cases h; exact po_no
  | some e =>
    obtain ⟨y, ey, rfl⟩ := mp_some h
    exact po_so (IH _ _ ey).pe
theorem cDct_ok {f : Expr → Option E} (IH : ∀ e x, f e = some x → Ok W D F X e x) {pos : Pos} : ∀ {ks : List (Option Expr)} {vs : List Expr} {ps : Es}, cDct f ks vs = some ps →
    PPs X pos ks vs (trsOf W D F ps) ∧ ks.all (·.isSome) = true ∧ ks.length = vs.length ∧ (trsOf W D F ps).length = ks.length
  | [], [], ps, h => by cases h; exact ⟨pps_nil, rfl, rfl, rfl⟩
  | [], _ :: _, ps, h => by cases h
  | none :: _, _, ps, h => by cases h
  | some k :: ks, [], ps, h => by cases h
  | some k :: ks, v :: vs, ps, h => by
    unfold cDct at h
    split at h
    · rename_i x y ex ey
      obtain ⟨r, er, rfl⟩ := mp_some h
      obtain ⟨h1, h2, h3, h4⟩ := cDct_ok IH (pos := pos) er
      exact ⟨pps_cons (tM_le (IH _ _ ex).pe) (tM_le (IH _ _ ey).pe) h1, by simpa using h2, by simp [h3], by simp [trsOf, h4]⟩
    · cases h
/-- what a clause gives -/
theorem cGen_ok (c : CxOk W D F lv cn N X sc) {f g : Expr → Option E} {scope : Scope} (IH : ∀ e x, f e = some x → Ok W D F X e x) (IG : ∀ (s : Shared) (H : Hp) (C : Addr) (cl : List (Str × Addr)) (fp : List Addr) e x, g e = some x → Ok W D F (X.blk s H scope (compEnvC scope cl C X.env) fp) e x)
    {tg iter : Expr} {ifs : List Expr} {is own : List Nat} {it : It} {xs : Es} (h : cGen N f g sc scope tg iter ifs = some (is, it, xs, own)) :
    (own = (ownOf N scope.names).map (·.2)) ∧ (∀ j ∈ is, j ∈ own) ∧ PI X tg iter (tIt W (evI D F it)) ∧ BlkOk X.N X.env.scope scope (ownOf N scope.names) ∧
      (∀ (s : Shared) (H : Hp) (C : Addr) (cl : List (Str × Addr)) (fp : List Addr), PG (X.blk s H scope (compEnvC scope cl C X.env) fp) tg (gN W is)) ∧ (∀ (s : Shared) (H : Hp) (C : Addr) (cl : List (Str × Addr)) (fp : List Addr), PTs (X.blk s H scope (compEnvC scope cl C X.env) fp) ifs (tTr W (evTs D F xs))) ∧
      (∀ x, foldedSetIterable iter X.env x = pure x) := by
  obtain ⟨h1, h2⟩ := gd_some h
  simp only [Bool.and_eq_true, decide_eq_true_eq] at h1
  split at h2
  · rename_i is' it' xs' e1 e2 e3
    obtain ⟨h3, h4⟩ := gd_some h2
    cases h4
    refine ⟨rfl, fun j hj => ?_, cIt_ok c IH e2, ?_, fun s H C cl fp => ?_, fun s H C cl fp => ?_, folded_of h1.1.2⟩
    · have := List.all_eq_true.mp h3 j hj
      simpa using this
    · rw [c.N, c.sc]
      exact blkOk_by h1.1.1
    · have cb := c.blk (scope := scope) s H C cl fp
      exact cTg_ok cb.K cb.N cb.nd cb.calm blk_st e1
    · exact ifs_ok (cM_ok (IG s H C cl fp) e3) h1.2
  · cases h2
/-- THE TRANSLATION OF EXPRESSIONS IS SOUND -/
theorem cE_ok : ∀ (n : Nat) {X : Cx} {sc : Scope} {e : Expr} {x : E}, CxOk W D F lv cn N X sc → cE cn N n sc e = some x → Ok W D F X e x
  | 0, _, _, _, _, _, h => by cases h
  | n + 1, X, sc, e, x, c, h => by
    have IH : ∀ e x, cE cn N n sc e = some x → Ok W D F X e x := fun e x h => cE_ok n c h
    have IG : ∀ (scope : Scope) (s : Shared) (H : Hp) (C : Addr) (cl : List (Str × Addr)) (fp : List Addr) e x, cE cn N n (relS scope sc) e = some x → Ok W D F (X.blk s H scope (compEnvC scope cl C X.env) fp) e x := fun scope s H C cl fp e x h => cE_ok n (c.blk s H C cl fp) h
    have pl : ∀ {e : Expr} {x : E}, plainT e = true → PE X e (tM W (evE D F x)) → Ok W D F X e x := fun {e x} hp h => ok_plain c.K h (isTrue_of hp)
    unfold cE at h
    split at h
    · split at h
      · cases h; exact pl rfl (e_c pe_int fun _ => .int _)
      · cases h; exact pl rfl (e_c pe_bl fun _ => .bl _)
      · cases h; exact pl rfl (e_c pe_non fun _ => .non)
      · cases h; exact pl rfl (e_c pe_str fun _ => .str _)
      · cases h
    · obtain ⟨h1, h2⟩ := gd_some h
      have d := dbg_of h1
      split at h2
      · rename_i hv
        obtain ⟨i, ei, rfl⟩ := mp_some h2
        exact pl rfl (e_var (pe_var (by rw [c.N]; exact idxN_get ei) (by rw [c.sc]; exact vis_of hv) d.1 d.2.1))
      · obtain ⟨h3, h4⟩ := gd_some h2
        obtain ⟨v, ev, rfl⟩ := mp_some h4
        obtain ⟨v', u, hm, r, k⟩ := c.pg.cons _ _ ev
        exact pl rfl (e_c (pe_glob (gl_of c h3) hm r d.1) k)
    · split at h
      · rename_i xs exs
        obtain ⟨h1, h2⟩ := and_of c.K (cM_ok IH exs) h
        exact ⟨h1, h2.pt⟩
      · cases h
    · split at h
      · rename_i xs exs
        obtain ⟨h1, h2⟩ := or_of c.K (cM_ok IH exs) h
        exact ⟨h1, h2.pt⟩
      · cases h
    · obtain ⟨y, z, ey, ez, rfl⟩ := mp2_some h
      exact pl rfl (e_bin c.K (IH _ _ ey).pe (IH _ _ ez).pe)
    · obtain ⟨y, ey, rfl⟩ := mp_some h
      exact pl rfl (e_neg (IH _ _ ey).pe)
    · obtain ⟨y, ey, rfl⟩ := mp_some h
      exact e_not c.K (IH _ _ ey)
    · split at h
      · rename_i k ek
        obtain ⟨y, z, ey, ez, rfl⟩ := mp2_some ek
        obtain ⟨w, ew, rfl⟩ := mp_some h
        exact e_ife (IH _ _ ey) (IH _ _ ez) (IH _ _ ew)
      · cases h
    · rename_i ks vs p
      obtain ⟨h1, h2⟩ := gd_some h
      obtain ⟨ps, eps, rfl⟩ := mp_some h2
      obtain ⟨q1, q2, q3, q4⟩ := cDct_ok IH (pos := p) eps
      cases ks with
      | nil =>
        cases vs with
        | nil => cases eps; exact pl rfl e_dsp0
        | cons v vs => cases q3
      | cons k ks => exact pl rfl (e_dsp q1 q2 q3 (by simp) (of_decide_eq_true h1) q4)
    · obtain ⟨h1, h2⟩ := gd_some h
      split at h2
      · rename_i xs exs
        obtain ⟨h3, h4⟩ := gd_some h2
        cases h4
        exact pl rfl (e_lst (fs_of (cM_ok IH exs) h1) h3)
      · cases h2
    · obtain ⟨h1, h2⟩ := gd_some h
      split at h2
      · rename_i xs exs
        obtain ⟨h3, h4⟩ := gd_some h2
        cases h4
        exact pl rfl (e_tup (fs_of (cM_ok IH exs) h1) h3)
      · cases h2
    · rename_i elt tg iter ifs scope p
      split at h
      · rename_i is it xs own y e1 e2
        cases h
        obtain ⟨rfl, q2, q3, q4, q5, q6, q7⟩ := cGen_ok c IH (IG scope) e1
        exact pl rfl (PE.imp (pe_lc c.calm (by rw [c.N]; exact c.nd) q3 q4 q5 q6 (fun s H C cl fp => tM_le (IG scope s H C cl fp _ _ e2).pe) q7) fun σ H Q q => lc_t q2 q)
      · cases h
    · rename_i k v tg iter ifs scope p
      split at h
      · rename_i is it xs own y z e1 e2 e3
        cases h
        obtain ⟨rfl, q2, q3, q4, q5, q6, q7⟩ := cGen_ok c IH (IG scope) e1
        exact pl rfl (PE.imp (pe_dc c.calm (by rw [c.N]; exact c.nd) q3 q4 q5 q6 (fun s H C cl fp => tM_le (IG scope s H C cl fp _ _ e2).pe) (fun s H C cl fp => tM_le (IG scope s H C cl fp _ _ e3).pe) q7) fun σ H Q q => dc_t q2 q)
      · cases h
    · obtain ⟨h1, h2⟩ := gd_some h
      obtain ⟨y, z, ey, ez, rfl⟩ := mp2_some h2
      exact e_cmp c.K c.u64 c.pg.kd (IH _ _ ey).pe (IH _ _ ez).pe (noMark h1)
    · obtain ⟨h1, h2⟩ := gd_some h
      split at h2
      · rename_i k ek
        obtain ⟨y, z, ey, ez, rfl⟩ := mp2_some ek
        obtain ⟨w, ew, rfl⟩ := mp_some h2
        exact e_chn c.K c.u64 c.pg.kd (IH _ _ ey).pe (IH _ _ ez).pe (IH _ _ ew).pe (noMark h1)
      · cases h2
    · exact pl rfl (nCall_ok c IH h)
    · obtain ⟨h1, h2⟩ := gd_some h
      obtain ⟨y, ey, rfl⟩ := mp_some h2
      exact pl rfl (e_fld c.K c.pg.fld (IH _ _ ey).pe (base_ok h1))
    · split at h
      · rename_i k ek
        obtain ⟨y, z, ey, ez, rfl⟩ := mp2_some ek
        obtain ⟨w, ew, rfl⟩ := mp_some h
        exact pl rfl (e_slc c.K (IH _ _ ey).pe (cOE_ok IH ez) (cOE_ok IH ew))
      · cases h
    · obtain ⟨h1, h2⟩ := gd_some h
      obtain ⟨y, z, ey, ez, rfl⟩ := mp2_some h2
      exact pl rfl (e_ix c.K c.u64 c.pg.kd (IH _ _ ey).pe (IH _ _ ez).pe (plainIx h1))
    · cases h
end
end Eng
end
section
set_option Elab.async false
set_option linter.all false
set_option maxRecDepth 100000
set_option maxHeartbeats 4000000
/-! ET: statements: what they mean. -/
namespace Eng
open PySem PySem.Spec PyProof.Rows L2 RZ
/-- a step of a statement -/
structure SStp (W : Wr) (ε : Env) (σ : L2.St) (H G : Hp) (ε' : Env) (σ' : L2.St) (H' G' : Hp) : Prop where
  rel : Rel W ε' σ' H' G'
  grow : Sub G G'
  keep : ∀ a o, H a = some o → ¬ OA ε σ a → H' a = some o
  newG : ∀ a o, H a = some o → ¬ OA ε σ a → G' a = G a
  oa : ∀ a, OA ε' σ' a → OA ε σ a ∨ H a = none
  lent : ∀ i : Nat, (∃ d, ε[i]? = some (.lent d)) → (∃ d, ε'[i]? = some (.lent d)) ∧ σ'[i]? = σ[i]?
  lent' : ∀ i : Nat, (∃ d, ε'[i]? = some (.lent d)) → ∃ d, ε[i]? = some (.lent d)
  sh : ∀ i : Nat, ε[i]? = some .sh → ε'[i]? = some .sh ∧ σ'[i]? = σ[i]?
  there : ∀ a o, H a = some o → ∃ o', H' a = some o'
  len : σ'.length = σ.length
section
variable {W : Wr} {ε ε' ε0 ε1 ε2 : Env} {σ σ' σ0 σ1 σ2 : L2.St} {H G H' G' H1 G1 H2 G2 : Hp}
theorem Stp.s (s : Stp W ε σ H G ε' H' G') : SStp W ε σ H G ε' σ H' G' :=
  ⟨s.rel, s.grow, s.keep, s.newG, fun a z => .inl (s.oa a z), fun i h => ⟨(s.lent i).mp h, rfl⟩, fun i h => (s.lent i).mpr h, fun i h => ⟨s.un i h, rfl⟩, s.there, rfl⟩
theorem SStp.refl (r : Rel W ε σ H G) : SStp W ε σ H G ε σ H G := (Stp.refl r).s
theorem SStp.none {a : Addr} (s : SStp W ε σ H G ε' σ' H' G') (h : H' a = none) : H a = none := by
  cases e : H a with
  | none => rfl
  | some u =>
    obtain ⟨o', z⟩ := s.there a u e
    rw [z] at h; cases h
theorem SStp.trans (a : SStp W ε σ H G ε1 σ1 H1 G1) (b : SStp W ε1 σ1 H1 G1 ε2 σ2 H2 G2) : SStp W ε σ H G ε2 σ2 H2 G2 := by
  have n : ∀ {x : Addr} {o : HO}, H x = some o → ¬ OA ε σ x → ¬ OA ε1 σ1 x := fun {x o} e h z => by
    rcases a.oa x z with q | q
    · exact h q
    · rw [e] at q; cases q
  refine ⟨b.rel, a.grow.trans b.grow, fun x o e h => b.keep x o (a.keep x o e h) (n e h), fun x o e h => (b.newG x o (a.keep x o e h) (n e h)).trans (a.newG x o e h), fun x z => ?_, fun i h => ?_, fun i h => a.lent' i (b.lent' i h), fun i h => ?_, fun x o e => ?_, b.len.trans a.len⟩
  · rcases b.oa x z with q | q
    · exact a.oa x q
    · exact .inr (a.none q)
  · obtain ⟨h1, h2⟩ := a.lent i h
    obtain ⟨h3, h4⟩ := b.lent i h1
    exact ⟨h3, h4.trans h2⟩
  · obtain ⟨h1, h2⟩ := a.sh i h
    obtain ⟨h3, h4⟩ := b.sh i h1
    exact ⟨h3, h4.trans h2⟩
  · obtain ⟨o', e'⟩ := a.there x o e
    exact b.there x o' e'
/-- names have got values -/
theorem TgC.sstp {is : List Nat} (t : TgC ε σ is ε' σ') (r : Rel W ε' σ' H G) : SStp W ε σ H G ε' σ' H G := by
  have ns : ∀ {j : Nat}, OwnS ε' j → j ∉ is := fun {j} ⟨d, h⟩ z => by
    obtain ⟨x, hx⟩ := (t.set j z).1
    rw [hx] at h; rcases h with h | h <;> cases h
  refine ⟨r, Sub.refl _, fun _ _ e _ => e, fun _ _ _ _ => rfl, fun a ⟨j, h1, h2⟩ => ?_, fun i ⟨d, h⟩ => ?_, fun i ⟨d, h⟩ => ?_, fun i h => ?_, fun a o e => ⟨o, e⟩, t.len⟩
  · have hj := ns h1
    obtain ⟨d, hd⟩ := h1
    rw [(t.same j hj).1] at hd
    rw [(t.same j hj).2] at h2
    exact .inl ⟨j, ⟨d, hd⟩, h2⟩
  · have hi : i ∉ is := fun z => (t.set i z).2.1 d h
    rw [(t.same i hi).1]
    exact ⟨⟨d, h⟩, (t.same i hi).2⟩
  · have hi : i ∉ is := ns ⟨d, .inr h⟩
    rw [(t.same i hi).1] at h
    exact ⟨d, h⟩
  · have hi : i ∉ is := fun z => (t.set i z).2.2 h
    rw [(t.same i hi).1]
    exact ⟨h, (t.same i hi).2⟩
/-- a slot gets an object of its own -/
theorem sto_own {i : Nat} {d : Val} {a : Addr} (s : Stp W ε σ H G ε1 H1 G1) (e : put i (.own d) ε1 = some ε') (k : OwnAt W H1 G1 d a) (n : ¬ OA ε1 σ a) (f : H a = none) : SStp W ε σ H G ε' (σ.set i (some (.ref a))) H1 G1 := by
  obtain ⟨rfl, hi, hl, hsh⟩ := put_spec e
  have rel := put_own (i := i) s.rel k n
  refine ⟨rel, s.grow, s.keep, s.newG, fun b ⟨j, h1, h2⟩ => ?_, fun j h => ?_, fun j h => ?_, fun j h => ?_, s.there, by simp⟩
  · by_cases hj : j = i
    · subst hj
      rw [List.getElem?_set_self (by rw [← s.rel.len]; exact hi)] at h2
      cases h2
      exact .inr f
    · rw [List.getElem?_set_ne (Ne.symm hj)] at h2
      obtain ⟨x, hx⟩ := h1
      rw [List.getElem?_set_ne (Ne.symm hj)] at hx
      exact .inl (s.oa b ⟨j, ⟨x, hx⟩, h2⟩)
  · obtain ⟨x, hx⟩ := (s.lent j).mp h
    have hj : j ≠ i := fun z => hl x (z ▸ hx)
    rw [List.getElem?_set_ne (Ne.symm hj), List.getElem?_set_ne (Ne.symm hj)]
    exact ⟨⟨x, hx⟩, rfl⟩
  · obtain ⟨x, hx⟩ := h
    by_cases hj : j = i
    · subst hj
      rw [List.getElem?_set_self hi] at hx
      cases hx
    · rw [List.getElem?_set_ne (Ne.symm hj)] at hx
      exact (s.lent j).mpr ⟨x, hx⟩
  · have h1 := s.un j h
    have hj : j ≠ i := fun z => hsh (z ▸ h1)
    rw [List.getElem?_set_ne (Ne.symm hj), List.getElem?_set_ne (Ne.symm hj)]
    exact ⟨h1, rfl⟩
/-- a name's new value -/
theorem sto_step {i : Nat} {r : RV} {v : V} (s : Stp W ε σ H G ε1 H1 G1) (k : RR W H ε1 σ H1 G1 r v) (e : sto i r ε1 = some ε') : ∃ G2, SStp W ε σ H G ε' (σ.set i (some v)) H1 G2 := by
  have val : ∀ {r : RV}, RR W H ε1 σ H1 G1 r v → (match fz r ε1 with | some (d, ε2) => put i (.val d) ε2 | none => none) = some ε' → ∃ G2, SStp W ε σ H G ε' (σ.set i (some v)) H1 G2 := fun {r} k e => by
    split at e
    · rename_i d ε2 ez
      obtain ⟨G2, s2, r2, _⟩ := fz_step s k ez
      have t := TgC.one (σ := σ) (v := v) e
      obtain ⟨rfl, _⟩ := put_spec e
      exact ⟨G2, s2.s.trans (t.sstp (put_val s2.rel r2))⟩
    · cases e
  cases r with
  | v d => exact val (r := .v d) k e
  | o d =>
    obtain ⟨a, rfl, o, n, f⟩ := k
    exact ⟨G1, sto_own s e o n f⟩
  | b j => exact val (r := .b j) k e
/-! ### what is walked by a loop is shut -/
theorem SStp.reopen {r : RV} (q : Rel W ε σ H G) (s : SStp W (shut r ε) σ H G ε2 σ2 H' G') : SStp W ε σ H G (reopen r ε ε2) σ2 H' G' := by
  have l : ε2.length = ε.length := by rw [s.rel.len, s.len, q.len]
  -- the slot that is shut
  have shi : ∀ {j : Nat}, shIx r ε = some j → ε2[j]? = some .sh ∧ σ2[j]? = σ[j]? := fun {j} h => s.sh j (by rw [shut_get, if_pos h])
  have oa0 : ∀ {a : Addr}, OA (shut r ε) σ a → ∃ j : Nat, shIx r ε ≠ some j ∧ OwnS ε j ∧ σ[j]? = some (some (.ref a)) := fun {a} ⟨j, ⟨d, h⟩, h2⟩ => by
    rw [shut_get] at h
    by_cases p : shIx r ε = some j
    · rw [if_pos p] at h; rcases h with h | h <;> cases h
    · rw [if_neg p] at h; exact ⟨j, p, ⟨d, h⟩, h2⟩
  have oa : ∀ {a : Addr}, OA (shut r ε) σ a → OA ε σ a := fun {a} h => by
    obtain ⟨j, _, h1, h2⟩ := oa0 h
    exact ⟨j, h1, h2⟩
  have own' : ∀ {j : Nat}, OwnS (Eng.reopen r ε ε2) j → (shIx r ε = some j ∧ OwnS ε j) ∨ (shIx r ε ≠ some j ∧ OwnS ε2 j) := fun {j} ⟨d, h⟩ => by
    rw [reopen_get l] at h
    by_cases p : shIx r ε = some j
    · rw [if_pos p] at h; exact .inl ⟨p, d, h⟩
    · rw [if_neg p] at h; exact .inr ⟨p, d, h⟩
  have isown : ∀ {j : Nat}, shIx r ε = some j → OwnS ε j := fun {j} h => by
    cases r with
    | v d => cases h
    | o d => cases h
    | b i =>
      rw [shIx_b] at h
      split at h
      · rename_i e
        rw [Option.some.inj h] at e
        cases e2 : ε[j]? with
        | none => rw [e2] at e; cases e
        | some x =>
          rw [e2] at e
          cases x <;> first | (cases e; done) | exact ⟨_, .inl e2⟩ | exact ⟨_, .inr e2⟩
      · cases h
  -- the shut slot's object is kept, and nobody else's
  have alone : ∀ {i : Nat} {a : Addr}, shIx r ε = some i → σ[i]? = some (some (.ref a)) → ¬ OA (shut r ε) σ a := fun {i a} p e z => by
    obtain ⟨j, h1, h2, h3⟩ := oa0 z
    exact h1 (q.apart i j a (isown p) h2 e h3 ▸ p)
  have far : ∀ {i j : Nat} {a : Addr}, shIx r ε = some i → σ2[i]? = some (some (.ref a)) → OwnS ε2 j → σ2[j]? = some (some (.ref a)) → False := fun {i j a} p e h1 h2 => by
    rw [(shi p).2] at e
    obtain ⟨d, hd⟩ := isown p
    obtain ⟨b, hb, ob⟩ := q.own i d hd
    rw [e] at hb; cases hb
    obtain ⟨u, hu⟩ := ob.there
    rcases s.oa a ⟨j, h1, h2⟩ with z | z
    · exact alone p e z
    · rw [hu] at z; cases z
  refine ⟨⟨by rw [reopen_length, s.rel.len], s.rel.sub, fun i d e => ?_, fun i d e => ?_, fun i j a h1 h2 e1 e2 => ?_⟩, s.grow, fun a o e n => s.keep a o e fun z => n (oa z), fun a o e n => s.newG a o e fun z => n (oa z), fun a z => ?_, fun i h => ?_, fun i h => ?_, fun i h => ?_, s.there, s.len⟩
  · rw [reopen_get l] at e
    by_cases p : shIx r ε = some i
    · rw [if_pos p] at e
      obtain ⟨x, hx⟩ := isown p
      rw [e] at hx; rcases hx with hx | hx <;> cases hx
    · rw [if_neg p] at e; exact s.rel.val i d e
  · rw [reopen_get l] at e
    by_cases p : shIx r ε = some i
    · rw [if_pos p] at e
      obtain ⟨a, h1, h2⟩ := q.own i d e
      have n := alone p h1
      obtain ⟨u, hu⟩ := h2.there
      exact ⟨a, by rw [(shi p).2]; exact h1, h2.keep s.grow (fun u e => s.keep _ _ e n) (s.newG _ _ hu n)⟩
    · rw [if_neg p] at e; exact s.rel.own i d e
  · rcases own' h1 with ⟨p1, q1⟩ | ⟨p1, q1⟩ <;> rcases own' h2 with ⟨p2, q2⟩ | ⟨p2, q2⟩
    · rw [p1] at p2; cases p2; rfl
    · exact (far p1 e1 q2 e2).elim
    · exact (far p2 e2 q1 e1).elim
    · exact s.rel.apart i j a q1 q2 e1 e2
  · obtain ⟨j, h1, h2⟩ := z
    rcases own' h1 with ⟨p1, q1⟩ | ⟨p1, q1⟩
    · rw [(shi p1).2] at h2
      exact .inl ⟨j, q1, h2⟩
    · rcases s.oa a ⟨j, q1, h2⟩ with w | w
      · exact .inl (oa w)
      · exact .inr w
  · rw [reopen_get l]
    by_cases p : shIx r ε = some i
    · rw [if_pos p]
      exact ⟨h, (shi p).2⟩
    · rw [if_neg p]
      exact s.lent i (by rw [shut_get, if_neg p]; exact h)
  · rw [reopen_get l] at h
    by_cases p : shIx r ε = some i
    · rw [if_pos p] at h; exact h
    · rw [if_neg p] at h
      have := s.lent' i h
      rw [shut_get, if_neg p] at this
      exact this
  · rw [reopen_get l]
    by_cases p : shIx r ε = some i
    · obtain ⟨x, hx⟩ := isown p
      rw [h] at hx; rcases hx with hx | hx <;> cases hx
    · rw [if_neg p]
      exact s.sh i (by rw [shut_get, if_neg p]; exact h)

/-! ### the reading of statements -/
/-- what is handed back -/
def RT (W : Wr) (ε : Env) (σ : L2.St) (H : Hp) (ε' : Env) (σ' : L2.St) (H' G' : Hp) (r : RV) (v : V) : Prop := match r with
  | .v d => Rep W G' d v
  | .o d => ∃ a, v = .ref a ∧ OwnAt W H' G' d a ∧ ¬ OA ε' σ' a ∧ (OA ε σ a ∨ H a = none)
  | .b _ => False
def EndsO (W : Wr) (D : Ends) (ε : Env) (σ : L2.St) (H : Hp) (o : Out) (ε' : Env) (σ' : L2.St) (H' G' : Hp) : Prop := match o with
  | .nx => D.nx σ' H'
  | .bk => D.bk σ' H'
  | .ct => D.ct σ' H'
  | .rt r => ∀ v, RT W ε σ H ε' σ' H' G' r v → D.rt v H'
def tSt (W : Wr) (m : Env → Option (Out × Env)) : TS := fun D σ H => ∃ G ε o ε', Rel W ε σ H G ∧ m ε = some (o, ε') ∧ ∀ σ' H' G', SStp W ε σ H G ε' σ' H' G' → EndsO W D ε σ H o ε' σ' H' G'
theorem RT.back {r : RV} {v : V} (s : SStp W ε σ H G ε1 σ1 H1 G1) (h : RT W ε1 σ1 H1 ε2 σ2 H2 G2 r v) : RT W ε σ H ε2 σ2 H2 G2 r v := by
  cases r with
  | v d => exact h
  | o d =>
    obtain ⟨a, e, o, n, f⟩ := h
    refine ⟨a, e, o, n, ?_⟩
    rcases f with f | f
    · exact s.oa a f
    · exact .inr (s.none f)
  | b i => exact h
theorem EndsO.back {D : Ends} {o : Out} (s : SStp W ε σ H G ε1 σ1 H1 G1) (h : EndsO W D ε σ H o ε2 σ2 H2 G2) : EndsO W D ε1 σ1 H1 o ε2 σ2 H2 G2 := by
  cases o with
  | nx => exact h
  | bk => exact h
  | ct => exact h
  | rt r => exact fun v q => h v (q.back s)
theorem PS.imp {X : Cx} {st : Stmt} {t t' : TS} (h : PS X st t) (k : ∀ D σ H, t' D σ H → t D σ H) : PS X st t' := ⟨fun pins s σ H D I q => h.run pins s σ H D I (k _ _ _ q)⟩
theorem PSs.imp {X : Cx} {st : List Stmt} {t t' : TS} (h : PSs X st t) (k : ∀ D σ H, t' D σ H → t D σ H) : PSs X st t' := ⟨fun pins s σ H D I q => h.run pins s σ H D I (k _ _ _ q)⟩
end
end Eng
end
section
set_option Elab.async false
set_option linter.all false
set_option maxRecDepth 100000
set_option maxHeartbeats 4000000
/-! EU: statements, one by one. -/
namespace Eng
open PySem PySem.Spec PyProof.Rows L2 RZ
section
variable {W : Wr} {X : Cx} {D : Tbl} {F : FT} {ε ε' ε0 ε1 ε2 : Env} {σ σ' σ0 σ1 σ2 : L2.St} {H G H' G' H1 G1 H2 G2 : Hp}
/-! ### name = comprehension, where the list is stored ahead of the block's end -/
def swB (sc : Scope) (t : Str) (p : Pos) (q : Pos) (scope : Scope) : Bool := decide (sc.names.lookup t = some .local) && (p.line == q.line) && !(scope.names.any fun (n, k) => n == t && (k == .local || k == .cell))
theorem sw_lc {elt : Expr} {gs : List Comprehension} {scope : Scope} {pos p : Pos} {t : Str} {l : Nat} (hk : X.env.scope.kind = .function) : swapsWith (.ListComp elt gs scope pos) (some (.Name t p)) l X.env = pure (swB X.env.scope t p pos scope) := by
  have b : X.env.blockKind = .function := by unfold PySem.Env.blockKind; rw [hk]; rfl
  have e : (X.env.kindOf t == some NameKind.local) = decide (X.env.scope.names.lookup t = some .local) := by
    unfold PySem.Env.kindOf
    cases X.env.scope.names.lookup t with
    | none => rfl
    | some k => cases k <;> rfl
  unfold swapsWith swB
  simp only [b, e, Expr.pos]
  rfl
theorem sw_dc {k v : Expr} {gs : List Comprehension} {scope : Scope} {pos p : Pos} {t : Str} {l : Nat} (hk : X.env.scope.kind = .function) : swapsWith (.DictComp k v gs scope pos) (some (.Name t p)) l X.env = pure (swB X.env.scope t p pos scope) := by
  have b : X.env.blockKind = .function := by unfold PySem.Env.blockKind; rw [hk]; rfl
  have e : (X.env.kindOf t == some NameKind.local) = decide (X.env.scope.names.lookup t = some .local) := by
    unfold PySem.Env.kindOf
    cases X.env.scope.names.lookup t with
    | none => rfl
    | some k => cases k <;> rfl
  unfold swapsWith swB
  simp only [b, e, Expr.pos]
  rfl
theorem ps_setDcE {i : Nat} {y : Str} {py : Pos} {kx vx tg iter : Expr} {ifs : List Expr} {scope : Scope} {own : List (Str × Nat)} {pos spos : Pos} {wi : TI} {g : TG} {tt : TT} {tk tv : TE} (hc : X.calm = true) (hN : X.N.Nodup) (hy : X.N[i]? = some y) (hyl : X.env.scope.names.lookup y = some .local)
    (hsw : swapsWith (.DictComp kx vx [⟨tg, iter, ifs, 0⟩] scope pos) (some (.Name y py)) spos.line X.env = pure true) (hi : PI X tg iter wi) (ok : BlkOk X.N X.env.scope scope own)
    (hg : ∀ (s : Shared) (H : Hp) (C : Addr) (cl : List (Str × Addr)) (fp : List Addr), PG (X.blk s H scope (compEnvC scope cl C X.env) fp) tg g) (ht : ∀ (s : Shared) (H : Hp) (C : Addr) (cl : List (Str × Addr)) (fp : List Addr), PTs (X.blk s H scope (compEnvC scope cl C X.env) fp) ifs tt)
    (hk : ∀ (s : Shared) (H : Hp) (C : Addr) (cl : List (Str × Addr)) (fp : List Addr), PE (X.blk s H scope (compEnvC scope cl C X.env) fp) kx tk) (he : ∀ (s : Shared) (H : Hp) (C : Addr) (cl : List (Str × Addr)) (fp : List Addr), PE (X.blk s H scope (compEnvC scope cl C X.env) fp) vx tv)
    (hs : ∀ x, foldedSetIterable iter X.env x = pure x) : PS X (.Assign [.Name y py] (.DictComp kx vx [⟨tg, iter, ifs, 0⟩] scope pos) spos) (tAsg (tDc wi g tt tk tv (own.map (·.2))) (gName i)) := by
  refine ⟨fun pins s σ H D I h => ?_⟩
  rw [exec_Assign_Name_used _ _ _ _ hsw]
  refine wpAny_bind (wpAny_standAt (wpAny_bind ?_))
  show wpAny _ X.A (comprehension (.DictComp kx vx [⟨tg, iter, ifs, 0⟩] scope pos) scope X.env (firstIterPos [⟨tg, iter, ifs, 0⟩] pos) newDict false (eval iter X.env) (some (assign (.Name y py) X.env)) >>= fun _ => pure ()) _ _ s
  refine wpAny_bind (thn (dc_core (Q := fun x H1 => gName i x σ H1 D.nx) (Qf := fun _ s' => SP X pins D .next s') hc hN I hi ok hg ht hk he hs h ?_) fun _ s' hq => wpAny_pure (wpAny_pure hq))
  rintro L C s' m H' I' q hn ⟨f0, f1, f2, f3, f4, f5⟩
  refine wpAny_assign_Name (store_ok2 (v := V.ref L) I' hN hy (.inl hyl) rfl ?_ (.inr hyl))
  rintro s2 I2 ⟨a, sb, ha⟩
  have nCa : C ≠ a := by
    rcases ha with z | z
    · rw [z]; exact f1
    · exact fun e => f4 y a z e.symm
  refine ⟨m, hn.sameBut sb nCa, fun h3 sb3 => ⟨_, H', ?_, q⟩⟩
  exact I2.turned (t' := s2.toks) (fun b o hb e => (sb3.2 b hb).trans e) f0 f1 f3 f4 f5

/-! ### name = e -/
theorem asg_t {x : E} {i : Nat} {t : TE} {D0 : Ends} (ht : ∀ σ H Q, tM W (evE D F x) σ H Q → t σ H Q) (h : tSt W (exS D F (.asg i x)) D0 σ H) : tAsg t (gName i) D0 σ H := by
  obtain ⟨G, ε, o, ε', rel, hm, hE⟩ := h
  unfold exS at hm
  split at hm
  · rename_i r ε1 e1
    split at hm
    · rename_i ε2 e2
      cases hm
      refine ht _ _ _ ⟨G, ε, r, ε1, rel, e1, fun v H' G' s k => ?_⟩
      obtain ⟨G2, st⟩ := sto_step s k e2
      exact hE _ _ _ st
    · cases hm
  · cases hm
theorem exp_t {x : E} {D0 : Ends} (h : tSt W (exS D F (.exp x)) D0 σ H) : tDrop (tM W (evE D F x)) D0 σ H := by
  obtain ⟨G, ε, o, ε', rel, hm, hE⟩ := h
  unfold exS at hm
  split at hm
  · rename_i r ε1 e1
    cases hm
    exact ⟨G, ε, r, _, rel, e1, fun v H' G' s k => hE _ _ _ s.s⟩
  · cases hm
/-! ### return -/
theorem mv_step {r r' : RV} {v : V} (s : Stp W ε σ H G ε1 H1 G1) (k : RR W H ε1 σ H1 G1 r v) (h : mv r ε1 = some (r', ε')) : SStp W ε σ H G ε' σ H1 G1 ∧ RT W ε σ H ε' σ H1 G1 r' v := by
  cases r with
  | v d => cases h; exact ⟨s.s, k⟩
  | o d =>
    cases h
    obtain ⟨a, e, o, n, f⟩ := k
    exact ⟨s.s, a, e, o, n, .inr f⟩
  | b i =>
    unfold mv at h
    simp only at h
    split at h
    · rename_i d e
      cases h
      obtain ⟨u, h1, h2⟩ := s.rel.val i d e
      rw [show σ[i]? = some (some v) from k] at h1; cases h1
      exact ⟨s.s, h2⟩
    · rename_i d e
      cases h
      obtain ⟨a, h1, h2⟩ := s.rel.own i d (.inl e)
      rw [show σ[i]? = some (some v) from k] at h1; cases h1
      have hi : i < ε1.length := (List.getElem?_eq_some_iff.mp e).1
      have own' : ∀ {j : Nat}, OwnS (ε1.set i .un) j → j ≠ i ∧ OwnS ε1 j := fun {j} ⟨x, hx⟩ => by
        by_cases hj : j = i
        · subst hj
          rw [List.getElem?_set_self hi] at hx
          rcases hx with hx | hx <;> cases hx
        · rw [List.getElem?_set_ne (Ne.symm hj)] at hx
          exact ⟨hj, x, hx⟩
      have oa' : ∀ {b : Addr}, OA (ε1.set i .un) σ b → OA ε1 σ b := fun {b} ⟨j, q1, q2⟩ => ⟨j, (own' q1).2, q2⟩
      have na : ¬ OA (ε1.set i .un) σ a := fun ⟨j, q1, q2⟩ => (own' q1).1 (s.rel.apart j i a (own' q1).2 ⟨d, .inl e⟩ q2 k)
      refine ⟨⟨⟨by rw [List.length_set]; exact s.rel.len, s.rel.sub, fun j x hx => ?_, fun j x hx => ?_, fun j l b q1 q2 => s.rel.apart j l b (own' q1).2 (own' q2).2⟩, s.grow, s.keep, s.newG, fun b z => .inl (s.oa b (oa' z)), fun j hj => ?_, fun j hj => ?_, fun j hj => ?_, s.there, rfl⟩, a, rfl, h2, na, .inl (s.oa a ⟨i, ⟨d, .inl e⟩, k⟩)⟩
      · by_cases hj : j = i
        · subst hj
          rw [List.getElem?_set_self hi] at hx; cases hx
        · rw [List.getElem?_set_ne (Ne.symm hj)] at hx
          exact s.rel.val j x hx
      · obtain ⟨hj, _⟩ := own' ⟨x, hx⟩
        rw [List.getElem?_set_ne (Ne.symm hj)] at hx
        exact s.rel.own j x hx
      · obtain ⟨x, hx⟩ := (s.lent j).mp hj
        have hne : j ≠ i := fun z => by rw [z, e] at hx; cases hx
        rw [List.getElem?_set_ne (Ne.symm hne)]
        exact ⟨⟨x, hx⟩, rfl⟩
      · obtain ⟨x, hx⟩ := hj
        obtain ⟨hne, _⟩ := own' ⟨x, .inr hx⟩
        rw [List.getElem?_set_ne (Ne.symm hne)] at hx
        exact (s.lent j).mpr ⟨x, hx⟩
      · have h1 := s.un j hj
        have hne : j ≠ i := fun z => by rw [z, e] at h1; cases h1
        rw [List.getElem?_set_ne (Ne.symm hne)]
        exact ⟨h1, rfl⟩
    · cases h
theorem ret_t {x : E} {D0 : Ends} (h : tSt W (exS D F (.ret x)) D0 σ H) : tRet (tM W (evE D F x)) D0 σ H := by
  obtain ⟨G, ε, o, ε', rel, hm, hE⟩ := h
  unfold exS at hm
  split at hm
  · rename_i r ε1 e1
    split at hm
    · rename_i r2 ε2 e2
      cases hm
      refine ⟨G, ε, r, ε1, rel, e1, fun v H' G' s k => ?_⟩
      obtain ⟨a, b⟩ := mv_step s k e2
      exact hE _ _ _ a v b
    · cases hm
  · cases hm
theorem retN_t {D0 : Ends} (h : tSt W (exS D F .retN) D0 σ H) : tRetN D0 σ H := by
  obtain ⟨G, ε, o, ε', rel, hm, hE⟩ := h
  unfold exS at hm
  cases hm
  exact hE _ _ _ (.refl rel) .non .non
theorem pass_t {D0 : Ends} (h : tSt W (exS D F .pass) D0 σ H) : tNext D0 σ H := by
  obtain ⟨G, ε, o, ε', rel, hm, hE⟩ := h
  unfold exS at hm
  cases hm
  exact hE _ _ _ (.refl rel)
theorem brk_t {D0 : Ends} (h : tSt W (exS D F .brk) D0 σ H) : tBreak D0 σ H := by
  obtain ⟨G, ε, o, ε', rel, hm, hE⟩ := h
  unfold exS at hm
  cases hm
  exact hE _ _ _ (.refl rel)
theorem cont_t {D0 : Ends} (h : tSt W (exS D F .cont) D0 σ H) : tCont D0 σ H := by
  obtain ⟨G, ε, o, ε', rel, hm, hE⟩ := h
  unfold exS at hm
  cases hm
  exact hE _ _ _ (.refl rel)
theorem bad_t {D0 : Ends} (h : tSt W (exS D F .bad) D0 σ H) : tNever D0 σ H := by
  obtain ⟨G, ε, o, ε', rel, hm, hE⟩ := h
  unfold exS at hm
  cases hm
/-! ### blocks -/
theorem seq_t {s : S} {ss : Ss} {D0 : Ends} (h : tSt W (exB D F (.cons s ss)) D0 σ H) : tSeq (tSt W (exS D F s)) (tSt W (exB D F ss)) D0 σ H := by
  obtain ⟨G, ε, o, ε', rel, hm, hE⟩ := h
  unfold exB at hm
  split at hm
  · rename_i ε1 e1
    refine ⟨G, ε, .nx, ε1, rel, e1, fun σ1 H1 G1 s1 => ⟨G1, ε1, o, ε', s1.rel, hm, fun σ2 H2 G2 s2 => (hE _ _ _ (s1.trans s2)).back s1⟩⟩
  · rename_i n1
    refine ⟨G, ε, o, ε', rel, hm, fun σ1 H1 G1 s1 => ?_⟩
    have := hE _ _ _ s1
    cases o with
    | nx => exact absurd hm (n1 ε')
    | bk => exact this
    | ct => exact this
    | rt r => exact this
theorem nil_t {D0 : Ends} (h : tSt W (exB D F .nil) D0 σ H) : tNext D0 σ H := by
  obtain ⟨G, ε, o, ε', rel, hm, hE⟩ := h
  unfold exB at hm
  cases hm
  exact hE _ _ _ (.refl rel)
theorem ife_t {c : E} {a b : Ss} {D0 : Ends} (h : tSt W (exS D F (.ife c a b)) D0 σ H) : tIfS (tTr W fun ε => tsR (evE D F c ε)) (tSt W (exB D F a)) (tSt W (exB D F b)) D0 σ H := by
  obtain ⟨G, ε, o, ε', rel, hm, hE⟩ := h
  unfold exS at hm
  split at hm
  · rename_i ε1 e1
    refine ⟨G, ε, true, ε1, rel, e1, fun H1 G1 s1 => ?_⟩
    simp only [if_true]
    exact ⟨G1, ε1, o, ε', s1.rel, hm, fun σ2 H2 G2 s2 => (hE _ _ _ (s1.s.trans s2)).back s1.s⟩
  · rename_i ε1 e1
    refine ⟨G, ε, false, ε1, rel, e1, fun H1 G1 s1 => ?_⟩
    simp only [Bool.false_eq_true, if_false]
    exact ⟨G1, ε1, o, ε', s1.rel, hm, fun σ2 H2 G2 s2 => (hE _ _ _ (s1.s.trans s2)).back s1.s⟩
  · cases hm
/-! ### loops -/
theorem wj_sstp {J : L2.It} {A : List Addr} {al : Hp → Hp → Prop} {xs : List Val} (w : WJ W J A al xs) (s : SStp W ε σ H G ε' σ' H' G') (h : al H G) (hA : ∀ a ∈ A, (∃ o, H a = some o) ∧ ¬ OA ε σ a) : al H' G' :=
  w.kept H G H' G' h s.grow s.rel.sub fun a ha o e => s.keep a o e (hA a ha).2
theorem for_t {tg : List Nat} {it : It} {body : Ss} {D0 : Ends} (h : tSt W (exS D F (.for_ tg it body)) D0 σ H) : tFor (tIt W (evI D F it)) (gN W tg) (tSt W (exB D F body)) D0 σ H := by
  obtain ⟨G, ε, o, ε', rel, hm, hE⟩ := h
  unfold exS at hm
  split at hm
  · rename_i rr xs ε1 e1
    split at hm
    · rename_i o' ε2 e2
      cases hm
      refine ⟨G, ε, rr, xs, ε1, rel, e1, fun J H1 G1 s1 wk => ?_⟩
      obtain ⟨A, al, al0, w, hA⟩ := wk
      have rs : Rel W (shut rr ε1) σ H1 G1 := shut_rel s1.rel
      generalize hb : (fun x ε => match tgs tg x ε with
        | some ε1 => exB D F body ε1
        | none => none) = bd at e2
      -- the end, from a step of the loop
      have fin : ∀ {σ2 : L2.St} {H2 G2 : Hp}, SStp W (shut rr ε1) σ H1 G1 ε2 σ2 H2 G2 → SStp W ε σ H G (reopen rr ε1 ε2) σ2 H2 G2 := fun {σ2 H2 G2} s => s1.s.trans (s.reopen s1.rel)
      have alk : ∀ {εi : Env} {σi : L2.St} {Hi Gi : Hp}, SStp W (shut rr ε1) σ H1 G1 εi σi Hi Gi → al Hi Gi := fun {εi σi Hi Gi} s => wj_sstp w s al0 hA
      refine ⟨fun i m σi Hi => ∃ εi Gi, m = xs.length - i ∧ i ≤ xs.length ∧ loopF bd (xs.drop i) εi = some (o, ε2) ∧ SStp W (shut rr ε1) σ H1 G1 εi σi Hi Gi, ⟨xs.length, shut rr ε1, G1, rfl, Nat.zero_le _, e2, .refl rs⟩, ?_⟩
      rintro i m σi Hi ⟨εi, Gi, rfl, hle, hl, st⟩
      by_cases hlt : i < xs.length
      · refine .inr ⟨w.go i Hi Gi (alk st) st.rel.sub hlt, fun σi Hi => ∃ εi Gi, loopF bd (xs.drop (i + 1)) εi = some (o, ε2) ∧ SStp W (shut rr ε1) σ H1 G1 εi σi Hi Gi, fun σi Hi ⟨εi, Gi, a, b⟩ => ⟨xs.length - (i + 1), by omega, εi, Gi, rfl, hlt, a, b⟩, fun x H' y => ?_⟩
        obtain ⟨G', a, k⟩ := w.yld i Hi Gi x H' xs[i] (alk st) st.rel.sub y (by simp [hlt])
        have sa := st.trans (a.stp st.rel).s
        rw [List.drop_eq_getElem_cons hlt] at hl
        unfold loopF at hl
        cases et : tgs tg xs[i] εi with
        | none =>
          have : bd xs[i] εi = none := by rw [← hb]; simp only [et]
          rw [this] at hl; cases hl
        | some εt =>
          have eb : bd xs[i] εi = exB D F body εt := by rw [← hb]; simp only [et]
          rw [eb] at hl
          refine ⟨xs[i], εi, εt, G', sa.rel, k, et, fun σ2 rel2 t => ?_⟩
          have s2 := sa.trans (t.sstp rel2)
          split at hl
          · rename_i ε3 e3
            refine ⟨G', εt, .nx, ε3, rel2, e3, fun σ3 H3 G3 s3 => ?_⟩
            exact ⟨ε3, G3, hl, s2.trans s3⟩
          · rename_i ε3 e3
            refine ⟨G', εt, .ct, ε3, rel2, e3, fun σ3 H3 G3 s3 => ?_⟩
            exact ⟨ε3, G3, hl, s2.trans s3⟩
          · rename_i ε3 e3
            cases hl
            refine ⟨G', εt, .bk, _, rel2, e3, fun σ3 H3 G3 s3 => ?_⟩
            exact hE _ _ _ (fin (s2.trans s3))
          · rename_i r ε3 e3
            cases hl
            refine ⟨G', εt, .rt r, _, rel2, e3, fun σ3 H3 G3 s3 => ?_⟩
            intro v q
            refine hE _ _ _ (fin (s2.trans s3)) v ?_
            cases r with
            | v d => exact q
            | o d =>
              obtain ⟨b, e, ob, n, f⟩ := q
              have f1 : OA (shut rr ε1) σ b ∨ H1 b = none := by
                rcases f with f | f
                · exact s2.oa b f
                · exact .inr (s2.none f)
              have l2 : ε2.length = ε1.length := by rw [s3.rel.len, (s2.trans s3).len, s1.rel.len]
              refine ⟨b, e, ob, fun z => ?_, ?_⟩
              · obtain ⟨j, ⟨d', hd⟩, hs⟩ := z
                rw [reopen_get l2] at hd
                by_cases p : shIx rr ε1 = some j
                · -- the walked thing is not the one handed back
                  rw [if_pos p] at hd
                  have h6 := (s2.trans s3).sh j (by rw [shut_get, if_pos p])
                  rw [h6.2] at hs
                  obtain ⟨c, hc, oc⟩ := s1.rel.own j d' hd
                  rw [hs] at hc; cases hc
                  obtain ⟨u, hu⟩ := oc.there
                  rcases f1 with f1 | f1
                  · obtain ⟨l, ⟨d2, hl2⟩, hs2⟩ := f1
                    rw [shut_get] at hl2
                    by_cases p2 : shIx rr ε1 = some l
                    · rw [if_pos p2] at hl2; rcases hl2 with hl2 | hl2 <;> cases hl2
                    · rw [if_neg p2] at hl2
                      have := s1.rel.apart j l b ⟨d', hd⟩ ⟨d2, hl2⟩ hs hs2
                      subst this
                      exact p2 p
                  · rw [hu] at f1; cases f1
                · rw [if_neg p] at hd
                  exact n ⟨j, ⟨d', hd⟩, hs⟩
              · rcases f1 with f1 | f1
                · refine .inl ?_
                  obtain ⟨l, ⟨d2, hl2⟩, hs2⟩ := f1
                  rw [shut_get] at hl2
                  by_cases p2 : shIx rr ε1 = some l
                  · rw [if_pos p2] at hl2; rcases hl2 with hl2 | hl2 <;> cases hl2
                  · rw [if_neg p2] at hl2
                    exact s1.oa b ⟨l, ⟨d2, hl2⟩, hs2⟩
                · exact .inr (s1.fresh f1)
            | b j => exact q
          · cases hl
      · have hie : i = xs.length := by omega
        subst hie
        rw [List.drop_length] at hl
        cases hl
        exact .inl ⟨w.stop _ Hi Gi (alk st) st.rel.sub (Nat.le_refl _), hE _ _ _ (fin st)⟩
    · cases hm
  · cases hm
theorem while_t {c : E} {body : Ss} {D0 : Ends} (h : tSt W (exS D F (.while_ c body)) D0 σ H) : tWhile (tTr W fun ε => tsR (evE D F c ε)) (tSt W (exB D F body)) D0 σ H := by
  obtain ⟨G, ε, o, ε', rel, hm, hE⟩ := h
  unfold exS at hm
  refine ⟨fun m σi Hi => ∃ εi Gi, whileF (fun ε => tsR (evE D F c ε)) (fun ε => exB D F body ε) m εi = some (o, ε') ∧ SStp W ε σ H G εi σi Hi Gi, ⟨D.wf, ε, G, hm, .refl rel⟩, ?_⟩
  rintro m σi Hi ⟨εi, Gi, hl, st⟩
  cases m with
  | zero => cases hl
  | succ m =>
    unfold whileF at hl
    split at hl
    · rename_i ε1 e1
      cases hl
      refine ⟨Gi, εi, false, _, st.rel, e1, fun H1 G1 s1 => ?_⟩
      simp only [Bool.false_eq_true, if_false]
      exact hE _ _ _ (st.trans s1.s)
    · rename_i ε1 e1
      refine ⟨Gi, εi, true, ε1, st.rel, e1, fun H1 G1 s1 => ?_⟩
      simp only [if_true]
      have s2 := st.trans s1.s
      refine ⟨fun σi Hi => ∃ εi Gi, whileF (fun ε => tsR (evE D F c ε)) (fun ε => exB D F body ε) m εi = some (o, ε') ∧ SStp W ε σ H G εi σi Hi Gi, fun σ' H' q => ⟨m, Nat.lt_succ_self _, q⟩, ?_⟩
      split at hl
      · rename_i ε3 e3
        exact ⟨G1, ε1, .nx, ε3, s1.rel, e3, fun σ3 H3 G3 s3 => ⟨ε3, G3, hl, s2.trans s3⟩⟩
      · rename_i ε3 e3
        exact ⟨G1, ε1, .ct, ε3, s1.rel, e3, fun σ3 H3 G3 s3 => ⟨ε3, G3, hl, s2.trans s3⟩⟩
      · rename_i ε3 e3
        cases hl
        exact ⟨G1, ε1, .bk, _, s1.rel, e3, fun σ3 H3 G3 s3 => hE _ _ _ (s2.trans s3)⟩
      · rename_i r ε3 e3
        cases hl
        exact ⟨G1, ε1, .rt r, _, s1.rel, e3, fun σ3 H3 G3 s3 => fun v q => hE _ _ _ (s2.trans s3) v (q.back s2)⟩
      · cases hl
    · cases hl
end
end Eng
end
section
set_option Elab.async false
set_option linter.all false
set_option maxRecDepth 100000
set_option maxHeartbeats 4000000
/-! EV: statements that write; tuple targets. -/
namespace Eng
open PySem PySem.Spec PyProof.Rows L2 RZ
section
variable {W : Wr} {X : Cx} {D : Tbl} {F : FT} {ε ε' ε0 ε1 ε2 : Env} {σ σ' σ0 σ1 σ2 : L2.St} {H G H' G' H0 G0 H1 G1 H2 G2 : Hp}
/-- the slot's object is written -/
theorem wrt_stp {r : RV} {d d' : Val} {v : V} {H00 : Hp} (s : Stp W ε0 σ H0 G0 ε H G) (k : RR W H00 ε σ H G r v) (hl : look r ε = some d) (h : wrt r d' ε = some ε') :
    ∃ a, v = .ref a ∧ OwnAt W H G d a ∧ ∀ ho, OwnAt W (upd H a ho) G d' a → Stp W ε0 σ H0 G0 ε' (upd H a ho) G := by
  cases r with
  | v x => cases h
  | o x => cases h
  | b i =>
    have k : σ[i]? = some (some v) := k
    have key : ∀ (x : Slot), ((x = .own d' ∧ ε[i]? = some (.own d)) ∨ (x = .lent d' ∧ ε[i]? = some (.lent d))) → ε' = ε.set i x → ∃ a, v = .ref a ∧ OwnAt W H G d a ∧ ∀ ho, OwnAt W (upd H a ho) G d' a → Stp W ε0 σ H0 G0 ε' (upd H a ho) G := by
      intro x hxe e'
      subst e'
      have hx : x = .own d' ∨ x = .lent d' := hxe.elim (fun z => .inl z.1) fun z => .inr z.1
      have oi : ε[i]? = some (.own d) ∨ ε[i]? = some (.lent d) := hxe.elim (fun z => .inl z.2) fun z => .inr z.2
      have hi : i < ε.length := by rcases oi with q | q <;> exact (List.getElem?_eq_some_iff.mp q).1
      have osi : OwnS ε i := ⟨d, oi⟩
      obtain ⟨a, h1, h2⟩ := s.rel.own i d oi
      rw [k] at h1; cases h1
      have OAi : OA ε σ a := ⟨i, osi, k⟩
      refine ⟨a, rfl, h2, fun ho hn => ?_⟩
      have os : ∀ {j : Nat}, OwnS (ε.set i x) j → OwnS ε j := fun {j} ⟨y, hy⟩ => by
        by_cases hj : j = i
        · subst hj; exact osi
        · rw [List.getElem?_set_ne (Ne.symm hj)] at hy; exact ⟨y, hy⟩
      have oa : ∀ {b : Addr}, OA (ε.set i x) σ b → OA ε σ b := fun {b} ⟨j, q1, q2⟩ => ⟨j, os q1, q2⟩
      have ga : G a = none := h2.1
      refine ⟨⟨by rw [List.length_set]; exact s.rel.len, fun b u e => ?_, fun j y e => ?_, fun j y e => ?_, fun j l b q1 q2 => s.rel.apart j l b (os q1) (os q2)⟩, s.grow, fun b u e m => ?_, s.newG, fun b z => s.oa b (oa z), fun j => ?_, fun j e => ?_, fun b u e => ?_⟩
      · by_cases hb : b = a
        · subst hb; rw [ga] at e; cases e
        · rw [upd_ne hb]; exact s.rel.sub _ _ e
      · by_cases hj : j = i
        · subst hj
          rw [List.getElem?_set_self hi] at e
          rcases hx with rfl | rfl <;> cases e
        · rw [List.getElem?_set_ne (Ne.symm hj)] at e
          exact s.rel.val j y e
      · by_cases hj : j = i
        · subst hj
          rw [List.getElem?_set_self hi] at e
          have ey : y = d' := by rcases hx with rfl | rfl <;> rcases e with e | e <;> cases e <;> rfl
          subst ey
          exact ⟨a, k, hn⟩
        · rw [List.getElem?_set_ne (Ne.symm hj)] at e
          obtain ⟨b, q1, q2⟩ := s.rel.own j y e
          have hb : b ≠ a := fun z => hj (s.rel.apart j i a ⟨y, e⟩ osi (z ▸ q1) k)
          exact ⟨b, q1, q2.keep (Sub.refl _) (fun u e => by rw [upd_ne hb]; exact e) rfl⟩
      · have hb : b ≠ a := fun z => m (z ▸ s.oa a OAi)
        rw [upd_ne hb]; exact s.keep b u e m
      · by_cases hj : j = i
        · subst hj
          rw [s.lent j, List.getElem?_set_self hi]
          constructor
          · rintro ⟨y, hy⟩
            rcases hxe with ⟨rfl, he⟩ | ⟨rfl, he⟩
            · rw [he] at hy; cases hy
            · exact ⟨d', rfl⟩
          · rintro ⟨y, hy⟩
            rcases hxe with ⟨rfl, he⟩ | ⟨rfl, he⟩
            · cases hy
            · exact ⟨d, he⟩
        · rw [List.getElem?_set_ne (Ne.symm hj)]; exact s.lent j
      · have h1 := s.un j e
        have hj : j ≠ i := fun z => by rw [z] at h1; rcases oi with q | q <;> rw [q] at h1 <;> cases h1
        rw [List.getElem?_set_ne (Ne.symm hj)]; exact h1
      · by_cases hb : b = a
        · subst hb; exact ⟨_, upd_same⟩
        · rw [upd_ne hb]; exact s.there b u e
    unfold wrt at h
    simp only at h
    rcases look_b hl with e | e | e
    · rw [e] at h; cases h
    · rw [e] at h
      cases h
      exact key (.own d') (.inl ⟨rfl, e⟩) rfl
    · rw [e] at h
      cases h
      exact key (.lent d') (.inr ⟨rfl, e⟩) rfl
/-! ### o.f = e -/
theorem fldS_t {o e : E} {f : Str} {D0 : Ends} (hK : X.K = W.K) (hc : ClsF W D) (h : tSt W (exS D F (.fldS o f e)) D0 σ H) : sFld X.K (tM W (evE D F o)) (tV W fun ε => vlR (evE D F e ε)) f D0 σ H := by
  obtain ⟨G, ε, ou, ε', rel, hm, hE⟩ := h
  unfold exS at hm
  split at hm
  · rename_i v ε1 e1
    split at hm
    · rename_i x ε2 e2
      split at hm
      · rename_i d ed
        split at hm
        · rename_i d' ed'
          split at hm
          · rename_i ε3 e3
            cases hm
            refine ⟨G, ε, v, ε1, rel, e1, fun y H1 G1 s1 k1 => ⟨G1, ε1, x, ε2, s1.rel, e2, fun z H2 G2 s2 k2 => ?_⟩⟩
            obtain ⟨a, rfl, ho, hw⟩ := wrt_stp (s1.trans s2) k2 ed e3
            cases d <;> try (cases ed'; done)
            rename_i c fs
            simp only [setFld] at ed'
            split at ed'
            · rename_i hf
              split at ed'
              · rename_i hz
                cases ed'
                obtain ⟨g, dx, vs, ha, rr⟩ := ho
                obtain ⟨c1, c2⟩ := hc c f hf
                refine ⟨a, W.C c, dx, vs, rfl, ha, hK ▸ c1, hK ▸ c2, by rw [← rr.length]; omega, ?_⟩
                refine hE _ _ G2 (hw _ ⟨g, dx, _, upd_same, RepF.put (k1.mono s2.grow) rr⟩).s
              · cases ed'
            · cases ed'
          · cases hm
        · cases hm
      · cases hm
    · cases hm
  · cases hm
/-! ### o[i] = e -/
variable (W) in
def setS : TSet := fun o i v H Q => ∃ G a d e w d', Sub G H ∧ o = .ref a ∧ OwnAt W H G d a ∧ Rdb W H G e i ∧ Rep W G w v ∧ setItem d e w = some d' ∧ ∀ ho, OwnAt W (upd H a ho) G d' a → Q (upd H a ho)
theorem set_S (hu : X.A.units + 1 < cLine) : PSet X (setS W) := by
  intro pins s σ H o i v ov iv u Q I ro ri rv h
  obtain ⟨G, a, d, e, w, d', sb, rfl, ho, re, rw', hs, hQ⟩ := h
  cases d with
  | lst xs =>
    simp only [setItem] at hs
    split at hs
    · rename_i k
      split at hs
      · rename_i n hn
        cases hs
        obtain ⟨g, vs, ha, rr⟩ := ho
        refine set_list pins s σ H _ i v ov iv u Q I ro ri rv ⟨a, vs, k, n, rfl, rdb_int re, ha, by rw [← rr.length]; exact hn, ?_⟩
        exact hQ _ ⟨g, _, upd_same, rr.set rw' n⟩
      · cases hs
    · cases hs
  | dct kvs =>
    simp only [setItem] at hs
    split at hs
    · rename_i k hk
      split at hs
      · rename_i hz
        cases hs
        obtain ⟨g, vs, ha, rr⟩ := ho
        refine set_dict hu pins s σ H _ i v ov iv u Q I ro ri rv ⟨a, _, rfl, .inl ⟨vs, k, ha, key_of hk re, by rw [← rr.length]; exact Nat.lt_of_lt_of_le hz cap_le, rfl⟩, ?_⟩
        exact hQ _ ⟨g, _, upd_same, rr.put rw'⟩
      · cases hs
    · cases hs
  | _ => cases hs
variable (W D F) in
/-- one target -/
def gT (t : Tg) : TG := fun v σ H Q => ∃ d ε ε' G, Rel W ε σ H G ∧ Rep W G d v ∧ tgV D F t d ε = some ε' ∧ ∀ σ' H' G', SStp W ε σ H G ε' σ' H' G' → Q σ' H'
variable (W D F) in
def gTs (ts : List Tg) : TGs := fun vs σ H Q => ∃ ds ε ε' G, Rel W ε σ H G ∧ Reps W G ds vs ∧ tgsV D F ts ds ε = some ε' ∧ ∀ σ' H' G', SStp W ε σ H G ε' σ' H' G' → Q σ' H'
theorem gT_nm {i : Nat} {v : V} {Q : L2.St → Hp → Prop} (h : gT W D F (.nm i) v σ H Q) : gName i v σ H Q := by
  obtain ⟨d, ε, ε', G, rel, k, e, hQ⟩ := h
  have e : put i (.val d) ε = some ε' := e
  have t := TgC.one (σ := σ) (v := v) e
  obtain ⟨rfl, _⟩ := put_spec e
  exact hQ _ _ _ (t.sstp (put_val rel k))
theorem gT_sub {o i : E} {v : V} {Q : L2.St → Hp → Prop} (h : gT W D F (.sub o i) v σ H Q) : gSub (tM W (evE D F o)) (tM W (evE D F i)) (setS W) v σ H Q := by
  obtain ⟨w, ε, ε', G, rel, kw, e, hQ⟩ := h
  dsimp only [tgV] at e
  split at e
  · rename_i x ε1 e1
    split at e
    · rename_i y ε2 e2
      split at e
      · rename_i d k ed ek
        split at e
        · rename_i d' ed'
          refine ⟨G, ε, x, ε1, rel, e1, fun u H1 G1 s1 k1 => ⟨G1, ε1, y, ε2, s1.rel, e2, fun u2 H2 G2 s2 k2 => ?_⟩⟩
          have s12 := s1.trans s2
          obtain ⟨a, rfl, ho, hw⟩ := wrt_stp s12 (k1.step s2) ed e
          refine ⟨G2, a, d, k, w, d', s2.rel.sub, rfl, ho, look_rdb s2.rel ek k2.r0, kw.mono s12.grow, ed', fun h1 h2 => ?_⟩
          exact hQ _ _ _ (hw _ h2).s
        · cases e
      · cases e
    · cases e
  · cases e
theorem gTs_nil {vs : List V} {Q : L2.St → Hp → Prop} (h : gTs W D F [] vs σ H Q) : gNil vs σ H Q := by
  obtain ⟨ds, ε, ε', G, rel, k, e, hQ⟩ := h
  cases k with
  | nil =>
    have e : some ε = some ε' := e
    cases e
    exact ⟨rfl, hQ _ _ _ (.refl rel)⟩
  | cons q r => cases e
theorem gTs_cons {t : Tg} {ts : List Tg} {vs : List V} {Q : L2.St → Hp → Prop} (h : gTs W D F (t :: ts) vs σ H Q) : gCons (gT W D F t) (gTs W D F ts) vs σ H Q := by
  obtain ⟨ds, ε, ε', G, rel, k, e, hQ⟩ := h
  cases k with
  | nil => cases e
  | @cons d v ds vs q r =>
    unfold tgsV at e
    split at e
    · rename_i ε1 e1
      exact ⟨v, vs, rfl, d, ε, ε1, G, rel, q, e1, fun σ1 H1 G1 s1 => ⟨ds, ε1, ε', G1, s1.rel, r.mono s1.grow, e, fun σ2 H2 G2 s2 => hQ _ _ _ (s1.trans s2)⟩⟩
    · cases e
theorem subS_t {o i e : E} {D0 : Ends} (h : tSt W (exS D F (.subS o i e)) D0 σ H) : tAsg (tV W fun ε => vlR (evE D F e ε)) (gSub (tM W (evE D F o)) (tM W (evE D F i)) (setS W)) D0 σ H := by
  obtain ⟨G, ε, ou, ε', rel, hm, hE⟩ := h
  unfold exS at hm
  split at hm
  · rename_i v ε1 e1
    split at hm
    · rename_i ε2 e2
      cases hm
      refine ⟨G, ε, v, ε1, rel, e1, fun y H1 G1 s1 k1 => gT_sub ⟨v, ε1, _, G1, s1.rel, k1, e2, fun σ2 H2 G2 s2 => ?_⟩⟩
      exact hE _ _ _ (s1.s.trans s2)
    · cases hm
  · cases hm
/-! ### l.append(e) -/
theorem app_t {i : Nat} {e : E} {D0 : Ends} {K : PySem.W.Frag} (hK : K = W.K) (h : tSt W (exS D F (.app i e)) D0 σ H) : tDrop (tBM K "list" rAppend (tVar i) (tCons (tV W fun ε => vlR (evE D F e ε)) tNil)) D0 σ H := by
  subst hK
  obtain ⟨G, ε, ou, ε', rel, hm, hE⟩ := h
  unfold exS at hm
  split at hm
  · rename_i hl
    split at hm
    · rename_i v ε1 e1
      split at hm
      · rename_i xs ex
        split at hm
        · rename_i hz
          split at hm
          · rename_i ε2 e2
            cases hm
            cases ei : look (.b i) ε with
            | none => rw [ei] at hl; cases hl
            | some d0 =>
              rw [ei] at hl
              cases d0 <;> try (cases hl; done)
              rename_i ys
              -- what the name holds
              have hv : ∃ u, σ[i]? = some (some u) := by
                rcases look_b ei with q | q | q
                · obtain ⟨u, h1, _⟩ := rel.val i _ q; exact ⟨u, h1⟩
                · obtain ⟨u, h1, _⟩ := rel.own i _ (.inl q); exact ⟨_, h1⟩
                · obtain ⟨u, h1, _⟩ := rel.own i _ (.inr q); exact ⟨_, h1⟩
              obtain ⟨u, hu⟩ := hv
              obtain ⟨a, vs, rfl, ha, _⟩ := rdb_lst rel.sub (look_rdb (r := .b i) rel ei hu)
              refine ⟨.ref a, hu, .inl ⟨rfl, vs, SqL.of ha⟩, G, ε, v, ε1, rel, e1, fun y H1 G1 s1 k1 => ?_⟩
              obtain ⟨b, eb, ho, hw⟩ := wrt_stp (H00 := H) s1 (show RR W H ε1 σ H1 G1 (.b i) (.ref a) from hu) ex e2
              cases eb
              obtain ⟨g, us, hus, rr⟩ := ho
              refine ⟨a, us, y, rfl, rfl, hus, by rw [← rr.length]; exact Nat.lt_of_lt_of_le hz cap_le, ?_⟩
              exact hE _ _ _ (hw _ ⟨g, _, upd_same, rr.append (.cons k1 .nil)⟩).s
          · cases hm
        · cases hm
      · cases hm
    · cases hm
  · cases hm
/-! ### a tuple taken apart -/
theorem tgsV_len : ∀ {ts : List Tg} {ds : List Val} {ε ε' : Env}, tgsV D F ts ds ε = some ε' → ds.length = ts.length
  | [], [], _, _, _ => rfl
  | [], _ :: _, _, _, h => by cases h
  | _ :: _, [], _, _, h => by cases h
  | t :: ts, d :: ds, ε, ε', h => by
    unfold tgsV at h
    split at h
    · simp [tgsV_len h]
    · cases h
theorem asgT_t {ts : List Tg} {e : E} {D0 : Ends} {K : PySem.W.Frag} (hK : K = W.K) (h : tSt W (exS D F (.asgT ts e)) D0 σ H) : tAsg (tV W fun ε => vlR (evE D F e ε)) (gTup K ts.length (gTs W D F ts)) D0 σ H := by
  subst hK
  obtain ⟨G, ε, ou, ε', rel, hm, hE⟩ := h
  unfold exS at hm
  split at hm
  · rename_i ds ε1 e1
    split at hm
    · rename_i hl
      split at hm
      · rename_i ε2 e2
        cases hm
        refine ⟨G, ε, .tup ds, ε1, rel, e1, fun v H1 G1 s1 k1 => ?_⟩
        cases k1 with
        | tup q rr => exact ⟨_, _, rfl, sqt_mono s1.rel.sub q, by rw [← rr.length]; exact hl, ds, ε1, _, G1, s1.rel, rr, e2, fun σ2 H2 G2 s2 => hE _ _ _ (s1.s.trans s2)⟩
      · cases hm
    · cases hm
  · cases hm
/-! ### names in one row -/
/-- what a slot that is to be stored stands for -/
def PK (W : Wr) (H0 : Hp) (ε : Env) (σ : L2.St) (H G : Hp) (s : Slot) (v : V) : Prop := match s with
  | .val d => Rep W G d v
  | .own d => ∃ a, v = .ref a ∧ OwnAt W H G d a ∧ ¬ OA ε σ a ∧ H0 a = none
  | _ => False
theorem parR_b {i : Nat} {s : Slot} (e : parR (.b i) ε = some s) : ∃ d, ε[i]? = some (.val d) ∧ s = .val d := by
  have e : (match ε[i]? with | some (.val d) => some (Slot.val d) | _ => none) = some s := e
  split at e
  · rename_i d h
    cases e
    exact ⟨d, h, rfl⟩
  · cases e
theorem parR_pk {r : RV} {v : V} {s : Slot} (rel : Rel W ε σ H G) {H0 : Hp} (k : RR W H0 ε σ H G r v) (e : parR r ε = some s) : PK W H0 ε σ H G s v ∧ (∀ d, s = .own d → r = .o d) := by
  cases r with
  | v d => cases e; exact ⟨k, fun d z => by cases z⟩
  | o d => cases e; exact ⟨k, fun d z => by cases z; rfl⟩
  | b i =>
    obtain ⟨d, h, rfl⟩ := parR_b e
    obtain ⟨v2, h2, h3⟩ := rel.val i d h
    have k : σ[i]? = some (some v) := k
    rw [k] at h2
    cases h2
    exact ⟨h3, fun d z => by cases z⟩
theorem oa_set {i : Nat} {s : Slot} {v : V} {b : Addr} (hi : i < ε.length) (hl : ε.length = σ.length) (h : OA (ε.set i s) (σ.set i (some v)) b) : OA ε σ b ∨ (v = .ref b ∧ ∃ d, s = .own d ∨ s = .lent d) := by
  obtain ⟨j, ⟨d, h1⟩, h2⟩ := h
  by_cases hj : j = i
  · subst hj
    rw [List.getElem?_set_self (by rw [← hl]; exact hi)] at h2
    rw [List.getElem?_set_self hi] at h1
    cases h2
    exact .inr ⟨rfl, d, by rcases h1 with h1 | h1 <;> cases h1 <;> simp⟩
  · rw [List.getElem?_set_ne (Ne.symm hj)] at h1 h2
    exact .inl ⟨j, ⟨d, h1⟩, h2⟩
theorem sput {i : Nat} {s : Slot} {v : V} (q : SStp W ε σ H G ε1 σ1 H1 G1) (e : put i s ε1 = some ε2) (k : PK W H ε1 σ1 H1 G1 s v) : SStp W ε σ H G ε2 (σ1.set i (some v)) H1 G1 := by
  cases s with
  | val d =>
    have t := TgC.one (σ := σ1) (v := v) e
    obtain ⟨rfl, _⟩ := put_spec e
    exact q.trans (t.sstp (put_val q.rel k))
  | own d =>
    obtain ⟨a, rfl, o, n, f⟩ := k
    obtain ⟨rfl, hi, hl, hsh⟩ := put_spec e
    have rel := put_own (i := i) q.rel o n
    have ll := q.rel.len
    refine ⟨rel, q.grow, q.keep, q.newG, fun b hb => ?_, fun j h => ?_, fun j h => ?_, fun j h => ?_, q.there, by simp [q.len]⟩
    · rcases oa_set hi ll hb with hb | ⟨hb, _⟩
      · exact q.oa b hb
      · cases hb; exact .inr f
    · obtain ⟨⟨x, hx⟩, h2⟩ := q.lent j h
      have hj : j ≠ i := fun z => hl x (z ▸ hx)
      rw [List.getElem?_set_ne (Ne.symm hj), List.getElem?_set_ne (Ne.symm hj)]
      exact ⟨⟨x, hx⟩, h2⟩
    · obtain ⟨x, hx⟩ := h
      by_cases hj : j = i
      · subst hj
        rw [List.getElem?_set_self hi] at hx
        cases hx
      · rw [List.getElem?_set_ne (Ne.symm hj)] at hx
        exact q.lent' j ⟨x, hx⟩
    · obtain ⟨h1, h2⟩ := q.sh j h
      have hj : j ≠ i := fun z => hsh (z ▸ h1)
      rw [List.getElem?_set_ne (Ne.symm hj), List.getElem?_set_ne (Ne.symm hj)]
      exact ⟨h1, h2⟩
  | un => exact k.elim
  | lent d => exact k.elim
  | sh => exact k.elim
/-- behind one store the others stand as they stood -/
theorem PK.put {i : Nat} {s s2 : Slot} {v v2 : V} {H0 : Hp} (rel : Rel W ε σ H G) (e : put i s ε = some ε1) (k2 : PK W H0 ε σ H G s2 v2) (ap : ∀ d d2, s = .own d → s2 = .own d2 → v ≠ v2) (nl : ∀ d, s ≠ .lent d) : PK W H0 ε1 (σ.set i (some v)) H G s2 v2 := by
  obtain ⟨rfl, hi, hl, hsh⟩ := put_spec e
  cases s2 with
  | val d => exact k2
  | own d =>
    obtain ⟨a, rfl, o, n, f⟩ := k2
    refine ⟨a, rfl, o, fun hb => ?_, f⟩
    rcases oa_set hi rel.len hb with hb | ⟨hb, d', hd⟩
    · exact n hb
    · rcases hd with hd | hd
      · exact ap d' d hd rfl hb
      · exact nl d' hd
  | un => exact k2.elim
  | lent d => exact k2.elim
  | sh => exact k2.elim
theorem parR_nl {r : RV} {s : Slot} (e : parR r ε = some s) : ∀ d, s ≠ .lent d := by
  intro d z
  subst z
  cases r with
  | v d => cases e
  | o d => cases e
  | b i =>
    obtain ⟨_, _, z⟩ := parR_b e
    cases z
inductive PKs (W : Wr) (H0 : Hp) (ε : Env) (σ : L2.St) (H G : Hp) : List Slot → List V → Prop
  | nil : PKs W H0 ε σ H G [] []
  | cons {s : Slot} {v : V} {ss : List Slot} {vs : List V} : PK W H0 ε σ H G s v → (∀ d, s ≠ .lent d) → (∀ d, s = .own d → ∀ (k : Nat) (d' : Val), ss[k]? = some (.own d') → vs[k]? ≠ some v) → PKs W H0 ε σ H G ss vs → PKs W H0 ε σ H G (s :: ss) (v :: vs)
theorem PKs.put {i : Nat} {s : Slot} {v : V} {H0 : Hp} (rel : Rel W ε σ H G) (e : Eng.put i s ε = some ε1) (nl : ∀ d, s ≠ .lent d) : ∀ {ss : List Slot} {vs : List V}, PKs W H0 ε σ H G ss vs → (∀ d, s = .own d → ∀ (k : Nat) (d' : Val), ss[k]? = some (.own d') → vs[k]? ≠ some v) → PKs W H0 ε1 (σ.set i (some v)) H G ss vs
  | [], [], _, _ => .nil
  | s2 :: ss, v2 :: vs, .cons k n a r, ap => .cons (PK.put rel e k (fun d d2 z1 z2 z => ap d z1 0 d2 (by rw [z2]; rfl) (by rw [z]; rfl)) nl) n a (PKs.put rel e nl r fun d z k d' h => ap d z (k + 1) d' (by simpa using h))
theorem parS_own : ∀ {rs : List RV} {ss : List Slot}, parS rs ε = some ss → ∀ (k : Nat) (d : Val), ss[k]? = some (.own d) → rs[k]? = some (.o d)
  | [], ss, e, k, d, h => by cases e; cases h
  | r :: rs, ss, e, k, d, h => by
    unfold parS at e
    split at e
    · rename_i s es
      split at e
      · rename_i ss' e'
        cases e
        cases k with
        | zero =>
          simp only [List.getElem?_cons_zero] at h ⊢
          cases h
          cases r with
          | v d => cases es
          | o d => cases es; rfl
          | b i =>
            obtain ⟨_, _, z⟩ := parR_b es
            cases z
        | succ k =>
          simp only [List.getElem?_cons_succ] at h ⊢
          exact parS_own e' k d h
      · cases e
    · cases e
theorem parS_pks (rel : Rel W ε σ H G) {H0 : Hp} : ∀ {rs : List RV} {vs : List V} {ss : List Slot}, RRs W H0 ε σ H G rs vs → parS rs ε = some ss → PKs W H0 ε σ H G ss vs
  | [], [], ss, _, e => by cases e; exact .nil
  | r :: rs, v :: vs, ss, .cons q ap rr, e => by
    unfold parS at e
    split at e
    · rename_i s es
      split at e
      · rename_i ss' e'
        cases e
        obtain ⟨k, o⟩ := parR_pk rel q es
        exact .cons k (parR_nl es) (fun d z j d' h => ap d (o d z) j d' (parS_own e' j d' h)) (parS_pks rel rr e')
      · cases e
    · cases e
def setN : List Nat → List V → L2.St → L2.St
  | i :: is, v :: vs, σ => setN is vs (σ.set i (some v))
  | _, _, σ => σ
theorem sputs : ∀ {is : List Nat} {ss : List Slot} {vs : List V} {ε1 ε2 : Env} {σ1 : L2.St}, PKs W H ε1 σ1 H1 G1 ss vs → SStp W ε σ H G ε1 σ1 H1 G1 → stosP is ss ε1 = some ε2 → SStp W ε σ H G ε2 (setN is vs σ1) H1 G1 ∧ vs.length = is.length
  | [], [], [], ε1, ε2, σ1, _, q, e => by cases e; exact ⟨q, rfl⟩
  | i :: is, s :: ss, v :: vs, ε1, ε2, σ1, .cons k n a r, q, e => by
    unfold stosP at e
    split at e
    · rename_i εa ea
      obtain ⟨h1, h2⟩ := sputs (PKs.put q.rel ea n r a) (sput q ea k) e
      exact ⟨h1, by simp [h2]⟩
    · cases e
  | [], s :: ss, v :: vs, ε1, ε2, σ1, _, q, e => by cases e
  | i :: is, [], [], ε1, ε2, σ1, _, q, e => by cases e
theorem par_gen {is : List Nat} {es : Es} {D0 : Ends} (h : tSt W (exS D F (.par is es)) D0 σ H) : tAs W (evA D F es) σ H fun vs H1 => vs.length = is.length ∧ D0.nx (setN is vs σ) H1 := by
  obtain ⟨G, ε, ou, ε', rel, hm, hE⟩ := h
  unfold exS at hm
  split at hm
  · rename_i rs ε1 e1
    split at hm
    · rename_i ss ep
      split at hm
      · rename_i ε2 e2
        cases hm
        refine ⟨G, ε, rs, ε1, rel, e1, fun vs H1 G1 s1 k1 => ?_⟩
        obtain ⟨h1, h2⟩ := sputs (parS_pks s1.rel k1 ep) s1.s e2
        exact ⟨h2, hE _ _ _ h1⟩
      · cases hm
    · cases hm
  · cases hm
theorem tAs_imp {m : Env → Option (List RV × Env)} {Q Q' : List V → Hp → Prop} (h : tAs W m σ H Q) (q : ∀ vs H1, Q vs H1 → Q' vs H1) : tAs W m σ H Q' := by
  obtain ⟨G, ε, r, ε', rel, e, k⟩ := h
  exact ⟨G, ε, r, ε', rel, e, fun v H' G' s kk => q _ _ (k v H' G' s kk)⟩
theorem par2_t {i j : Nat} {es : Es} {D0 : Ends} (h : tSt W (exS D F (.par [i, j] es)) D0 σ H) : tPar i j (tAs W (evA D F es)) D0 σ H :=
  tAs_imp (par_gen h) fun vs H1 ⟨hl, hn⟩ => by
    match vs, hl with
    | [v, w], _ => exact ⟨v, w, rfl, hn⟩
theorem par3_t {i j l : Nat} {es : Es} {D0 : Ends} (h : tSt W (exS D F (.par [i, j, l] es)) D0 σ H) : tPar3 i j l (tAs W (evA D F es)) D0 σ H :=
  tAs_imp (par_gen h) fun vs H1 ⟨hl, hn⟩ => by
    match vs, hl with
    | [v, w, u], _ => exact ⟨v, w, u, rfl, hn⟩
end
end Eng
end
section
set_option Elab.async false
set_option linter.all false
set_option maxRecDepth 100000
set_option maxHeartbeats 4000000
/-! EW: statements translated; the translation is sound. -/
namespace Eng
open PySem PySem.Spec PyProof.Rows L2 RZ
def noComp : Expr → Bool
  | .ListComp .. => false
  | .SetComp .. => false
  | .DictComp .. => false
  | _ => true
def noName : Expr → Bool
  | .Name .. => false
  | _ => true
theorem sw_none {e : Expr} {t : Option Expr} {l : Nat} {env : PySem.Env} (h : noComp e = true) : swapsWith e t l env = pure false := by
  cases e <;> first | rfl | cases h
theorem sw_noName {e t : Expr} {l : Nat} {env : PySem.Env} (h : noName t = true) : swapsWith e (some t) l env = pure false := by
  cases e <;> first
    | rfl
    | (cases t <;> first | rfl | cases h)
def isStar : Expr → Bool
  | .Starred .. => true
  | _ => false
def swNames (sc : Scope) (ts : List Expr) : List Str := ts.filterMap fun
  | .Name id pos => if sc.names.lookup id == some .local && pos.line == (ts.head?.map (·.pos.line)).getD 0 then some id else none
  | _ => none
def swD (sc : Scope) (ts vs : List Expr) : Option (Option (List Str)) :=
  if !(ts.length == 2 || ts.length == 3) || vs.length != ts.length then some none
  else if vs.any isStar then some none
  else if (swNames sc ts).length != ts.length || (swNames sc ts).eraseDups.length != (swNames sc ts).length then some none
  else if vs.all (foldedForSure 8) then some none
  else if vs.all (constantsAlone 8) then none
  else some (some (swNames sc ts))
theorem sw_tuple {sc : Scope} {env : PySem.Env} {ts vs : List Expr} {k k2 : Nat} {p p2 : Pos} {r : Option (List Str)} (hs : env.scope = sc) (hk : sc.kind = .function) (h : swD sc ts vs = some r) : swappedStores [.Tuple ts k p] (.Tuple vs k2 p2) env = pure r := by
  subst hs
  have b : (env.blockKind != ScopeKind.function) = false := by
    have : env.blockKind = .function := by unfold PySem.Env.blockKind; rw [hk]; rfl
    rw [this]; rfl
  unfold swD at h
  unfold swappedStores
  simp only [b, Bool.or_false]
  change (if (!(ts.length == 2 || ts.length == 3) || vs.length != ts.length) = true then pure none
    else if vs.any isStar = true then pure none
    else if ((swNames env.scope ts).length != ts.length || (swNames env.scope ts).eraseDups.length != (swNames env.scope ts).length) = true then pure none
    else if vs.all (foldedForSure 8) = true then pure none
    else if vs.all (constantsAlone 8) = true then (do
      unsupported "assign.tuple-of-constant-expressions:order-of-the-stores"
      pure (some (swNames env.scope ts)))
    else pure (some (swNames env.scope ts))) = _
  split at h
  · rename_i q
    cases h
    rw [if_pos q]
  · rename_i q
    rw [if_neg q]
    split at h
    · rename_i q2
      cases h
      rw [if_pos q2]
    · rename_i q2
      rw [if_neg q2]
      split at h
      · rename_i q3
        cases h
        rw [if_pos q3]
      · rename_i q3
        rw [if_neg q3]
        split at h
        · rename_i q4
          cases h
          rw [if_pos q4]
        · rename_i q4
          rw [if_neg q4]
          split at h
          · cases h
          · rename_i q5
            rw [if_neg q5]
            cases h
            rfl
theorem sw_notTuple {ts : List Expr} {k : Nat} {p : Pos} {v : Expr} {env : PySem.Env} (h : isTupE v = false) : swappedStores [.Tuple ts k p] v env = pure none := by
  cases v <;> first | rfl | cases h
section
variable (cn : Cn) (N : List Str) (n : Nat) (sc : Scope)
def cT : Expr → Option Tg
  | .Name x _ => gd (stoB sc x) (mp .nm (idxN N x))
  | .Subscript o i _ => gd (noSlice i) (mp2 .sub (cE cn N n sc o) (cE cn N n sc i))
  | _ => none
def cTs : List Expr → Option (List Tg)
  | [] => some []
  | e :: es => mp2 List.cons (cT cn N n sc e) (cTs es)
def nmIx : Expr → Option Nat
  | .Name x _ => gd (decide (sc.names.lookup x = some .local)) (idxN N x)
  | _ => none
/-- (a, b) = v -/
def cAsgT (ts : List Expr) (v : Expr) : Option S := mp2 .asgT (cTs cn N n sc ts) (cE cn N n sc v)
def cPar (ts vs : List Expr) : Option S := gd (vs.all noStar) (match ts, vs with
  | [t1, t2], [a, b] => match nmIx N sc t1, nmIx N sc t2, cE cn N n sc a, cE cn N n sc b with
    | some i, some j, some x, some y => gd (decide (i ≠ j)) (some (.par [i, j] (.cons x (.cons y .nil))))
    | _, _, _, _ => none
  | [t1, t2, t3], [a, b, c] => match nmIx N sc t1, nmIx N sc t2, nmIx N sc t3, cE cn N n sc a, cE cn N n sc b, cE cn N n sc c with
    | some i, some j, some l, some x, some y, some z => gd (decide (i ≠ j) && decide (i ≠ l) && decide (j ≠ l)) (some (.par [i, j, l] (.cons x (.cons y (.cons z .nil)))))
    | _, _, _, _, _, _ => none
  | _, _ => none)
def namesOf : List Expr → List Str
  | [] => []
  | .Name x _ :: es => x :: namesOf es
  | _ :: es => namesOf es
def cAsg (t v : Expr) : Option S := match t with
  | .Name y py => gd (stoB sc y) (mp2 .asg (idxN N y) (cE cn N n sc v))
  | .Attribute o f _ => mp2 (fun x y => .fldS x f y) (cE cn N n sc o) (cE cn N n sc v)
  | .Subscript o i _ => gd (noSlice i) (match mp2 .subS (cE cn N n sc o) (cE cn N n sc i) with
    | some h => mp h (cE cn N n sc v)
    | none => none)
  | .Tuple ts _ _ => (match v with
    | .Tuple vs _ _ => match swD sc ts vs with
      | some none => cAsgT cn N n sc ts v
      | some (some nms) => gd (decide (nms = namesOf ts)) (cPar cn N n sc ts vs)
      | none => none
    | _ => cAsgT cn N n sc ts v)
  | _ => none
def cExp (e : Expr) : Option S := match e with
  | .Constant (.str _) _ _ => some .pass
  | .Call (.Attribute (.Name x _) m apos) [a] [] cpos => if m = "append" then
      gd (visB sc x && !dbgB x && (apos.endLine == cpos.line) && noStar a) (mp2 .app (idxN N x) (cE cn N n sc a))
    else mp .exp (cE cn N n sc e)
  | e => gd (noComp e) (mp .exp (cE cn N n sc e))
def cBl (f : Stmt → Option S) : List Stmt → Option Ss
  | [] => some .nil
  | s :: ss => mp2 .cons (f s) (cBl f ss)
def cS : Nat → Stmt → Option S
  | 0, _ => none
  | m + 1, st => match st with
    | .Expr e _ => cExp cn N n sc e
    | .Assign [t] v _ => cAsg cn N n sc t v
    | .If c a b _ => match cE cn N n sc c, cBl (cS m) a, cBl (cS m) b with
      | some x, some y, some z => some (.ife x y z)
      | _, _, _ => none
    | .For tg iter body [] _ => gd (noSetE iter) (match cTg N sc tg, cIt (cE cn N n sc) sc (isTupE tg) iter, cBl (cS m) body with
      | some is, some it, some b => some (.for_ is it b)
      | _, _, _ => none)
    | .While c body [] _ => mp2 .while_ (cE cn N n sc c) (cBl (cS m) body)
    | .Return (some e) _ => mp .ret (cE cn N n sc e)
    | .Return none _ => some .retN
    | .Pass _ => some .pass
    | .Break _ => some .brk
    | .Continue _ => some .cont
    | .Raise .. => some .bad
    | _ => none
end
section
variable {W : Wr} {D : Tbl} {F : FT} {lv : Nat} {cn : Cn} {N : List Str} {X : Cx} {sc : Scope} {n : Nat}
structure SxOk (W : Wr) (D : Tbl) (F : FT) (lv : Nat) (cn : Cn) (N : List Str) (X : Cx) (sc0 : Scope) : Prop extends CxOk W D F lv cn N X sc0 where
  hp : PassesOwn (model X.prog X.w) X.A X.env X.xe
  st : StOk X sc0
  kind : sc0.kind = .function
theorem SxOk.xkind (c : SxOk W D F lv cn N X sc) : X.env.scope.kind = .function := by rw [c.sc]; exact c.kind
theorem SxOk.nd' (c : SxOk W D F lv cn N X sc) : X.N.Nodup := by rw [c.N]; exact c.nd
theorem SxOk.loc (c : SxOk W D F lv cn N X sc) {x : Str} (h : sc.names.lookup x = some .local) : X.env.scope.names.lookup x = some .local := by rw [c.sc]; exact h
/-- name = e -/
theorem asgName_ok (c : SxOk W D F lv cn N X sc) {y : Str} {py pos : Pos} {v : Expr} {i : Nat} {x : E} (hs : stoB sc y = true) (hi : idxN N y = some i) (hv : cE cn N n sc v = some x) : PS X (.Assign [.Name y py] v pos) (tSt W (exS D F (.asg i x))) := by
  have hN : X.N[i]? = some y := by rw [c.N]; exact idxN_get hi
  have pe := (cE_ok n c.toCxOk hv).pe
  have plain : swapsWith v (some (.Name y py)) pos.line X.env = pure false → PS X (.Assign [.Name y py] v pos) (tSt W (exS D F (.asg i x))) := fun hw =>
    PS.imp (ps_set c.nd' hN (c.st.st _ hs).1 pe hw (c.st.st _ hs).2) fun D0 σ H q => asg_t (fun _ _ _ q => q) q
  by_cases hc : noComp v = true
  · exact plain (sw_none hc)
  · cases n with
    | zero => cases hv
    | succ n =>
      cases v <;> try (exact absurd rfl hc)
      · rename_i elt gens scope p
        have e := sw_lc (X := X) (elt := elt) (gs := gens) (scope := scope) (pos := p) (p := py) (t := y) (l := pos.line) c.xkind
        cases hb : swB X.env.scope y py p scope with
        | false => rw [hb] at e; exact plain e
        | true =>
          rw [hb] at e
          have IH : ∀ e x, cE cn N n sc e = some x → Ok W D F X e x := fun e x h => cE_ok n c.toCxOk h
          have IG : ∀ (s : Shared) (H : Hp) (C : Addr) (cl : List (Str × Addr)) (fp : List Addr) e x, cE cn N n (relS scope sc) e = some x → Ok W D F (X.blk s H scope (compEnvC scope cl C X.env) fp) e x := fun s H C cl fp e x h => cE_ok n (c.toCxOk.blk s H C cl fp) h
          have hyl : X.env.scope.names.lookup y = some .local := by
            unfold swB at hb
            simp only [Bool.and_eq_true, decide_eq_true_eq] at hb
            exact hb.1.1
          unfold cE at hv
          split at hv <;> first | (cases hv; done) | skip
          all_goals (rename_i heq; first | (cases heq; done) | skip)
          cases heq
          split at hv
          · rename_i is it xs own z e1 e2
            cases hv
            obtain ⟨rfl, q2, q3, q4, q5, q6, q7⟩ := cGen_ok c.toCxOk IH IG e1
            exact PS.imp (ps_setLc c.calm c.nd' hN hyl e q3 q4 q5 q6 (fun s H C cl fp => tM_le (IG s H C cl fp _ _ e2).pe) q7) fun D0 σ H q => asg_t (fun _ _ _ q => lc_t q2 q) q
          · cases hv
      · unfold cE at hv
        split at hv <;> first | (cases hv; done) | skip
        all_goals (rename_i heq; cases heq)
      · rename_i kx vx gens scope p
        have e := sw_dc (X := X) (k := kx) (v := vx) (gs := gens) (scope := scope) (pos := p) (p := py) (t := y) (l := pos.line) c.xkind
        cases hb : swB X.env.scope y py p scope with
        | false => rw [hb] at e; exact plain e
        | true =>
          rw [hb] at e
          have IH : ∀ e x, cE cn N n sc e = some x → Ok W D F X e x := fun e x h => cE_ok n c.toCxOk h
          have IG : ∀ (s : Shared) (H : Hp) (C : Addr) (cl : List (Str × Addr)) (fp : List Addr) e x, cE cn N n (relS scope sc) e = some x → Ok W D F (X.blk s H scope (compEnvC scope cl C X.env) fp) e x := fun s H C cl fp e x h => cE_ok n (c.toCxOk.blk s H C cl fp) h
          have hyl : X.env.scope.names.lookup y = some .local := by
            unfold swB at hb
            simp only [Bool.and_eq_true, decide_eq_true_eq] at hb
            exact hb.1.1
          unfold cE at hv
          split at hv <;> first | (cases hv; done) | skip
          all_goals (rename_i heq; first | (cases heq; done) | skip)
          cases heq
          split at hv
          · rename_i is it xs own z1 z2 e1 e2 e3
            cases hv
            obtain ⟨rfl, q2, q3, q4, q5, q6, q7⟩ := cGen_ok c.toCxOk IH IG e1
            exact PS.imp (ps_setDcE c.calm c.nd' hN hyl e q3 q4 q5 q6 (fun s H C cl fp => tM_le (IG s H C cl fp _ _ e2).pe) (fun s H C cl fp => tM_le (IG s H C cl fp _ _ e3).pe) q7) fun D0 σ H q => asg_t (fun _ _ _ q => dc_t q2 q) q
          · cases hv
end
end Eng
end
section
set_option Elab.async false
set_option linter.all false
set_option maxRecDepth 100000
set_option maxHeartbeats 4000000
/-! EX: the translation of statements is sound. -/
namespace Eng
open PySem PySem.Spec PyProof.Rows L2 RZ
section
variable {W : Wr} {D : Tbl} {F : FT} {lv : Nat} {cn : Cn} {N : List Str} {X : Cx} {sc : Scope} {n : Nat}
theorem sw_sole {t v : Expr} {l : Nat} {env : PySem.Env} (h : noName t = true) : swapsWithSole [t] v l env = pure false := sw_noName h
theorem cT_ok (c : SxOk W D F lv cn N X sc) {e : Expr} {t : Tg} (h : cT cn N n sc e = some t) : PG X e (gT W D F t) ∧ noStar e = true := by
  unfold cT at h
  split at h
  · rename_i x p
    obtain ⟨h1, h2⟩ := gd_some h
    obtain ⟨i, ei, rfl⟩ := mp_some h2
    have hN : X.N[i]? = some x := by rw [c.N]; exact idxN_get ei
    exact ⟨PG.imp (pg_name c.nd' hN (c.st.st _ h1).1 (c.st.st _ h1).2) fun v σ H Q q => gT_nm q, rfl⟩
  · rename_i o i p
    obtain ⟨h1, h2⟩ := gd_some h
    obtain ⟨y, z, ey, ez, rfl⟩ := mp2_some h2
    refine ⟨PG.imp (pg_sub (cE_ok n c.toCxOk ey).pe (cE_ok n c.toCxOk ez).pe (set_S c.toCxOk.u1) ?_) fun v σ H Q q => gT_sub q, rfl⟩
    intro v
    cases i <;> first | rfl | cases h1
  · cases h
theorem asgE_cons {e : Expr} {es : List Expr} {env : PySem.Env} (h : noStar e = true) : assignEach (e :: es) env = (false, assign e env) :: assignEach es env := by
  cases e <;> first | rfl | cases h
theorem cTs_ok (c : SxOk W D F lv cn N X sc) : ∀ {es : List Expr} {ts : List Tg}, cTs cn N n sc es = some ts → PGs X es (gTs W D F ts) ∧ (assignEach es X.env).length = ts.length ∧ (assignEach es X.env).findIdx? (·.1) = none
  | [], ts, h => by
    cases h
    exact ⟨PGs.imp pgs_nil fun v σ H Q q => gTs_nil q, rfl, rfl⟩
  | e :: es, ts, h => by
    unfold cTs at h
    obtain ⟨t, ts', et, ets, rfl⟩ := mp2_some h
    obtain ⟨h1, hn⟩ := cT_ok c et
    obtain ⟨h2, h3, h4⟩ := cTs_ok c ets
    have ea := asgE_cons (es := es) (env := X.env) hn
    refine ⟨PGs.imp (pgs_cons h1 h2 (by rw [ea]; rfl)) fun v σ H Q q => gTs_cons q, by rw [ea]; simp [h3], ?_⟩
    rw [ea, List.findIdx?_cons]
    simp [h4]
theorem cAsgT_ok (c : SxOk W D F lv cn N X sc) {ts : List Expr} {k : Nat} {p pos : Pos} {v : Expr} {s : S} (h : cAsgT cn N n sc ts v = some s) (hw : swappedStores [.Tuple ts k p] v X.env = pure none) : PS X (.Assign [.Tuple ts k p] v pos) (tSt W (exS D F s)) := by
  obtain ⟨t, y, et, ey, rfl⟩ := mp2_some h
  obtain ⟨h1, h2, h3⟩ := cTs_ok c et
  exact PS.imp (ps_asg (tM_le (cE_ok n c.toCxOk ey).pe) (pg_tup c.calm h1 h2 h3) (sw_sole rfl) hw rfl) fun D0 σ H q => asgT_t c.K q
theorem nmIx_some {e : Expr} {i : Nat} (h : nmIx N sc e = some i) : ∃ x p, e = .Name x p ∧ sc.names.lookup x = some .local ∧ N[i]? = some x := by
  unfold nmIx at h
  split at h
  · obtain ⟨h1, h2⟩ := gd_some h
    exact ⟨_, _, rfl, of_decide_eq_true h1, idxN_get h2⟩
  · cases h
theorem cPar_ok (c : SxOk W D F lv cn N X sc) {ts vs : List Expr} {k k2 : Nat} {p p2 pos : Pos} {s : S} {nms : List Str} (h : cPar cn N n sc ts vs = some s) (hn : nms = namesOf ts) (hw : swappedStores [.Tuple ts k p] (.Tuple vs k2 p2) X.env = pure (some nms)) :
    PS X (.Assign [.Tuple ts k p] (.Tuple vs k2 p2) pos) (tSt W (exS D F s)) := by
  obtain ⟨hs, h1⟩ := gd_some h
  subst hn
  split at h1
  · rename_i t1 t2 a b
    split at h1
    · rename_i i j x y ei ej ex ey
      obtain ⟨h2, h3⟩ := gd_some h1
      cases h3
      obtain ⟨n1, q1, rfl, l1, g1⟩ := nmIx_some ei
      obtain ⟨n2, q2, rfl, l2, g2⟩ := nmIx_some ej
      simp only [List.all_cons, List.all_nil, Bool.and_eq_true] at hs
      have ha : PA X [a, b] (tAs W (evA D F (.cons x (.cons y .nil)))) := as_cons (cE_ok n c.toCxOk ex).pe (as_cons (cE_ok n c.toCxOk ey).pe as_nil (star_cons hs.2.1)) (star_cons hs.1)
      exact PS.imp (ps_par c.calm c.nd' (by rw [c.N]; exact g1) (by rw [c.N]; exact g2) (of_decide_eq_true h2) (c.loc l1) (c.loc l2) ha hw (sw_sole rfl)) fun D0 σ H q => par2_t q
    · cases h1
  · rename_i t1 t2 t3 a b d
    split at h1
    · rename_i i j l x y z ei ej el ex ey ez
      obtain ⟨h2, h3⟩ := gd_some h1
      cases h3
      simp only [Bool.and_eq_true, decide_eq_true_eq] at h2
      obtain ⟨n1, q1, rfl, l1, g1⟩ := nmIx_some ei
      obtain ⟨n2, q2, rfl, l2, g2⟩ := nmIx_some ej
      obtain ⟨n3, q3, rfl, l3, g3⟩ := nmIx_some el
      simp only [List.all_cons, List.all_nil, Bool.and_eq_true] at hs
      have ha : PA X [a, b, d] (tAs W (evA D F (.cons x (.cons y (.cons z .nil))))) := as_cons (cE_ok n c.toCxOk ex).pe (as_cons (cE_ok n c.toCxOk ey).pe (as_cons (cE_ok n c.toCxOk ez).pe as_nil (star_cons hs.2.2.1)) (star_cons hs.2.1)) (star_cons hs.1)
      exact PS.imp (ps_par3 c.calm c.nd' (by rw [c.N]; exact g1) (by rw [c.N]; exact g2) (by rw [c.N]; exact g3) h2.1.1 h2.1.2 h2.2 (c.loc l1) (c.loc l2) (c.loc l3) ha hw (sw_sole rfl)) fun D0 σ H q => par3_t q
    · cases h1
  · cases h1
theorem cAsg_ok (c : SxOk W D F lv cn N X sc) {t v : Expr} {pos : Pos} {s : S} (h : cAsg cn N n sc t v = some s) : PS X (.Assign [t] v pos) (tSt W (exS D F s)) := by
  unfold cAsg at h
  split at h
  · obtain ⟨h1, h2⟩ := gd_some h
    obtain ⟨i, x, ei, ex, rfl⟩ := mp2_some h2
    exact asgName_ok c h1 ei ex
  · obtain ⟨x, y, ex, ey, rfl⟩ := mp2_some h
    exact PS.imp (ps_fld (cE_ok n c.toCxOk ex).pe (tM_le (cE_ok n c.toCxOk ey).pe) (sw_noName rfl)) fun D0 σ H q => fldS_t c.K c.pg.fld q
  · rename_i o i p
    obtain ⟨h1, h2⟩ := gd_some h
    split at h2
    · rename_i k ek
      obtain ⟨x, y, ex, ey, rfl⟩ := mp2_some ek
      obtain ⟨z, ez, rfl⟩ := mp_some h2
      refine PS.imp (ps_asg (tM_le (cE_ok n c.toCxOk ez).pe) (pg_sub (cE_ok n c.toCxOk ex).pe (cE_ok n c.toCxOk ey).pe (set_S c.toCxOk.u1) ?_) (sw_sole rfl) (by rfl) (by rfl)) fun D0 σ H q => subS_t q
      intro v
      cases i <;> first | rfl | cases h1
    · cases h2
  · rename_i ts k p
    split at h
    · rename_i vs k2 p2
      split at h
      · rename_i e
        exact cAsgT_ok c h (sw_tuple c.sc c.kind e)
      · rename_i nms e
        obtain ⟨h1, h2⟩ := gd_some h
        exact cPar_ok c h2 (of_decide_eq_true h1) (sw_tuple c.sc c.kind e)
      · cases h
    · rename_i hv
      refine cAsgT_ok c h (sw_notTuple ?_)
      cases v <;> first | rfl | exact absurd rfl (hv _ _ _)
  · cases h
theorem cExp_ok (c : SxOk W D F lv cn N X sc) {e : Expr} {pos : Pos} {s : S} (h : cExp cn N n sc e = some s) : PS X (.Expr e pos) (tSt W (exS D F s)) := by
  unfold cExp at h
  split at h
  · cases h
    exact PS.imp ps_doc fun D0 σ H q => pass_t q
  · rename_i x p m apos a cpos
    split at h
    · rename_i e; subst e
      obtain ⟨h1, h2⟩ := gd_some h
      simp only [Bool.and_eq_true] at h1
      obtain ⟨⟨⟨v1, v2⟩, v3⟩, v4⟩ := h1
      obtain ⟨i, y, ei, ey, rfl⟩ := mp2_some h2
      have d := dbg_of v2
      have hx : PE X (.Name x p) (tVar i) := pe_var (by rw [c.N]; exact idxN_get ei) (by rw [c.sc]; exact vis_of v1) d.1 d.2.1
      have ha : PA X [a] (tCons (tV W fun ε => vlR (evE D F y ε)) tNil) := pa_cons (tM_le (cE_ok n c.toCxOk ey).pe) pa_nil (star_cons v4)
      have hb := pe_bm PySem.F.plainAttrs_list PySem.F.slot_list_append PySem.F.type_list_append mt_append hx ha (apos := apos) (cpos := cpos) (base_ok rfl) (by rw [star_cons v4]; rfl) v3 (star_cons v4) (by rfl)
      exact PS.imp (ps_expr hb (by rfl)) fun D0 σ H q => app_t c.K q
    · obtain ⟨y, ey, rfl⟩ := mp_some h
      exact PS.imp (ps_expr (cE_ok n c.toCxOk ey).pe (by rfl)) fun D0 σ H q => exp_t q
  · obtain ⟨h1, h2⟩ := gd_some h
    obtain ⟨y, ey, rfl⟩ := mp_some h2
    exact PS.imp (ps_expr (cE_ok n c.toCxOk ey).pe (sw_none h1)) fun D0 σ H q => exp_t q
theorem cBl_ok {f : Stmt → Option S} (IH : ∀ st s, f st = some s → PS X st (tSt W (exS D F s))) : ∀ {sts : List Stmt} {ss : Ss}, cBl f sts = some ss → PSs X sts (tSt W (exB D F ss))
  | [], ss, h => by
    cases h
    exact PSs.imp pss_nil fun D0 σ H q => nil_t q
  | st :: sts, ss, h => by
    unfold cBl at h
    obtain ⟨s, ss', es, ess, rfl⟩ := mp2_some h
    exact PSs.imp (pss_cons (IH _ _ es) (cBl_ok IH ess)) fun D0 σ H q => seq_t q
/-- THE TRANSLATION OF STATEMENTS IS SOUND -/
theorem cS_ok (c : SxOk W D F lv cn N X sc) : ∀ (m : Nat) {st : Stmt} {s : S}, cS cn N n sc m st = some s → PS X st (tSt W (exS D F s))
  | 0, _, _, h => by cases h
  | m + 1, st, s, h => by
    have IH : ∀ st s, cS cn N n sc m st = some s → PS X st (tSt W (exS D F s)) := fun st s h => cS_ok c m h
    unfold cS at h
    split at h
    · exact cExp_ok c h
    · exact cAsg_ok c h
    · split at h
      · rename_i x y z ex ey ez
        cases h
        exact PS.imp (ps_if (cE_ok n c.toCxOk ex).pt (cBl_ok IH ey) (cBl_ok IH ez)) fun D0 σ H q => ife_t q
      · cases h
    · obtain ⟨h1, h2⟩ := gd_some h
      split at h2
      · rename_i is it b e1 e2 e3
        cases h2
        exact PS.imp (ps_for c.hp c.calm (cIt_ok c.toCxOk (fun e x h => cE_ok n c.toCxOk h) e2) (cTg_ok c.K c.N c.nd c.calm c.st e1) (cBl_ok IH e3) (folded_of h1)) fun D0 σ H q => for_t q
      · cases h2
    · obtain ⟨y, b, ey, eb, rfl⟩ := mp2_some h
      exact PS.imp (ps_while c.hp (cE_ok n c.toCxOk ey).pt (cBl_ok IH eb)) fun D0 σ H q => while_t q
    · obtain ⟨y, ey, rfl⟩ := mp_some h
      exact PS.imp (ps_ret (cE_ok n c.toCxOk ey).pe) fun D0 σ H q => ret_t q
    · cases h
      exact PS.imp ps_retN fun D0 σ H q => retN_t q
    · cases h
      exact PS.imp ps_pass fun D0 σ H q => pass_t q
    · cases h
      exact PS.imp ps_break fun D0 σ H q => brk_t q
    · cases h
      exact PS.imp ps_continue fun D0 σ H q => cont_t q
    · cases h
      exact PS.imp ps_never fun D0 σ H q => bad_t q
    · cases h
end
end Eng
end
section
set_option Elab.async false
set_option linter.all false
set_option maxRecDepth 100000
set_option maxHeartbeats 4000000
/-! EY: defs. -/
namespace Eng
open PySem PySem.Spec PyProof.Rows L2 RZ
section
variable {W : Wr} {D : Tbl}
theorem startE_get {r : FnR} {as : List Arg} (i : Nat) : (startE r as)[i]? = if i < as.length then (as[i]?).map slotOf else if i < as.length + (r.ns - as.length) then some .un else none := by
  unfold startE
  by_cases h : i < as.length
  · rw [if_pos h, List.getElem?_append_left (by simpa using h), List.getElem?_map]
  · rw [if_neg h, List.getElem?_append_right (by simpa using Nat.le_of_not_lt h), List.length_map, List.getElem?_replicate]
    by_cases h2 : i < as.length + (r.ns - as.length)
    · rw [if_pos h2, if_pos (by omega)]
    · rw [if_neg h2, if_neg (by omega)]
theorem start_get {N : List Str} {vs : List V} {i : Nat} (h : i < vs.length) : (L2.start N vs)[i]? = (vs[i]?).map some := by
  unfold L2.start
  rw [List.getElem?_append_left (by simpa using h), List.getElem?_map]
theorem startE_val {r : FnR} {as : List Arg} {i : Nat} {d : Val} (h : (startE r as)[i]? = some (.val d)) : as[i]? = some (.val d) := by
  rw [startE_get] at h
  split at h
  · cases e : as[i]? with
    | none => rw [e] at h; cases h
    | some a => rw [e] at h; cases a <;> cases h; rfl
  · split at h <;> cases h
theorem startE_own {r : FnR} {as : List Arg} {i : Nat} {d : Val} (h : (startE r as)[i]? = some (.own d) ∨ (startE r as)[i]? = some (.lent d)) : as[i]? = some (.lent d) := by
  rw [startE_get] at h
  split at h
  · cases e : as[i]? with
    | none => rw [e] at h; rcases h with h | h <;> cases h
    | some a => rw [e] at h; cases a <;> rcases h with h | h <;> cases h; rfl
  · split at h <;> rcases h with h | h <;> cases h
theorem start_rel {N : List Str} {r : FnR} {as : List Arg} {vs : List V} {H G : Hp} (sb : Sub G H) (A : ArgsR W H G as vs) (hn : r.ns = N.length) (hl : vs.length ≤ N.length) : Rel W (startE r as) (L2.start N vs) H G := by
  have len := A.len
  refine ⟨?_, sb, fun i d e => ?_, fun i d e => ?_, fun i j a ⟨d, h1⟩ ⟨d2, h2⟩ e1 e2 => ?_⟩
  · unfold startE L2.start
    rw [List.length_append, List.length_append, List.length_map, List.length_map, List.length_replicate, List.length_replicate, len, hn]
  · obtain ⟨v, h1, h2⟩ := A.val i d (startE_val e)
    have hi : i < vs.length := (List.getElem?_eq_some_iff.mp h1).1
    exact ⟨v, by rw [start_get hi, h1]; rfl, h2⟩
  · obtain ⟨a, h1, h2⟩ := A.lent i d (startE_own e)
    have hi : i < vs.length := (List.getElem?_eq_some_iff.mp h1).1
    exact ⟨a, by rw [start_get hi, h1]; rfl, h2⟩
  · have q1 := startE_own h1
    have q2 := startE_own h2
    obtain ⟨a1, h3, _⟩ := A.lent i d q1
    obtain ⟨a2, h4, _⟩ := A.lent j d2 q2
    have hi : i < vs.length := (List.getElem?_eq_some_iff.mp h3).1
    have hj : j < vs.length := (List.getElem?_eq_some_iff.mp h4).1
    rw [start_get hi, h3] at e1
    rw [start_get hj, h4] at e2
    cases e1; cases e2
    exact A.apart i j a d d2 q1 q2 h3 h4
theorem outsOf_len : ∀ {as : List Arg} {ε : Env} {ds : List Val}, outsOf as ε = some ds → ds.length = as.length
  | [], ε, ds, h => by cases h; rfl
  | .val v :: as, [], ds, h => by cases h
  | .val v :: as, _ :: ε, ds, h => by
    unfold outsOf at h
    split at h
    · rename_i e
      cases h
      simp [outsOf_len e]
    · cases h
  | .lent v :: as, [], ds, h => by cases h
  | .lent v :: as, s :: ε, ds, h => by
    cases s <;> try (cases h; done)
    unfold outsOf at h
    split at h
    · rename_i e
      cases h
      simp [outsOf_len e]
    · cases h
theorem outsOf_lent : ∀ {as : List Arg} {ε : Env} {ds : List Val} {i : Nat} {d d' : Val}, outsOf as ε = some ds → as[i]? = some (.lent d) → ds[i]? = some d' → ε[i]? = some (.lent d')
  | [], ε, ds, i, d, d', h, h1, h2 => by cases h1
  | .val v :: as, [], ds, i, d, d', h, h1, h2 => by cases h
  | .val v :: as, s :: ε, ds, i, d, d', h, h1, h2 => by
    unfold outsOf at h
    split at h
    · rename_i e
      cases h
      cases i with
      | zero => cases h1
      | succ i => exact outsOf_lent (as := as) (ε := ε) e h1 h2
    · cases h
  | .lent v :: as, [], ds, i, d, d', h, h1, h2 => by cases h
  | .lent v :: as, s :: ε, ds, i, d, d', h, h1, h2 => by
    cases s <;> try (cases h; done)
    rename_i w
    unfold outsOf at h
    split at h
    · rename_i e
      cases h
      cases i with
      | zero =>
        cases h2
        rfl
      | succ i => exact outsOf_lent (as := as) (ε := ε) e h1 h2
    · cases h
theorem runFn_some {F : FT} {r : FnR} {as : List Arg} {x : RV} {ds : List Val} (h : runFn D F r as = some (x, ds)) : as.length = r.np ∧ ∃ o ε, exB D F r.body (startE r as) = some (o, ε) ∧ outsOf as ε = some ds ∧ (o = .rt x ∨ (o = .nx ∧ x = .v .non)) := by
  unfold runFn at h
  split at h
  · rename_i hl
    refine ⟨hl, ?_⟩
    split at h
    · rename_i y ε e
      split at h
      · rename_i ds' e2
        cases h
        exact ⟨_, _, e, e2, .inl rfl⟩
      · cases h
    · rename_i ε e
      split at h
      · rename_i ds' e2
        cases h
        exact ⟨_, _, e, e2, .inr ⟨rfl, rfl⟩⟩
      · cases h
    · cases h
  · cases h
/-- the end of a body is the end of a call -/
theorem cst_of {N : List Str} {r : FnR} {as : List Arg} {vs : List V} {H G : Hp} (A : ArgsR W H G as vs) {ε' : Env} {σ' : L2.St} {H' G' : Hp} (st : SStp W (startE r as) (L2.start N vs) H G ε' σ' H' G') {ds : List Val} (ho : outsOf as ε' = some ds) {x : RV} {v : V} (hr : RT W (startE r as) (L2.start N vs) H ε' σ' H' G' x v) :
    CSt W H G as vs x ds v H' G' := by
  have la : ∀ {a : Addr}, OA (startE r as) (L2.start N vs) a → LA as vs a := fun {a} ⟨j, ⟨d, h1⟩, h2⟩ => by
    have q := startE_own h1
    obtain ⟨b, h3, _⟩ := A.lent j d q
    have hj : j < vs.length := (List.getElem?_eq_some_iff.mp h3).1
    rw [start_get hj, h3] at h2
    cases h2
    exact ⟨j, d, q, h3⟩
  have slot : ∀ {i : Nat} {d : Val}, as[i]? = some (.lent d) → (startE r as)[i]? = some (.lent d) := fun {i d} h => by
    rw [startE_get, if_pos (List.getElem?_eq_some_iff.mp h).1, h]; rfl
  refine ⟨st.rel.sub, st.grow, fun a o e n => st.keep a o e fun z => n (la z), fun a o e n => st.newG a o e fun z => n (la z), st.there, outsOf_len ho, fun i d d' a h1 h2 h3 => ?_, ?_⟩
  · have h4 := outsOf_lent ho h1 h3
    obtain ⟨_, h5⟩ := st.lent i ⟨d, slot h1⟩
    have hi : i < vs.length := (List.getElem?_eq_some_iff.mp h2).1
    rw [start_get hi, h2] at h5
    obtain ⟨b, h6, h7⟩ := st.rel.own i d' (.inr h4)
    rw [h5] at h6; cases h6
    exact h7
  · cases x with
    | v d => exact hr
    | b j => exact hr
    | o d =>
      obtain ⟨a, e, o, n, f⟩ := hr
      refine ⟨a, e, o, ?_⟩
      rcases f with f | f
      · obtain ⟨i, d2, h1, h2⟩ := la f
        obtain ⟨⟨d3, h3⟩, h5⟩ := st.lent i ⟨d2, slot h1⟩
        have hi : i < vs.length := (List.getElem?_eq_some_iff.mp h2).1
        rw [start_get hi, h2] at h5
        exact absurd ⟨i, ⟨d3, .inr h3⟩, h5⟩ n
      · exact f
end
/-- a def of the text and its form in the little language -/
structure FnFact (K : PySem.W.Frag) (D : Tbl) (cn : Cn) (f : Nat) (a : Addr) : Prop where
  ex : ∃ (x qual : Str) (params : Arguments) (body : List Stmt) (scope : Scope) (fd : FuncData) (ps N : List Str) (n m : Nat) (r : FnR), FunD K x qual params body scope [] [] a fd ∧ FnScope N ps scope ∧ Binds K fd ps [] ∧ D.fns[f]? = some r ∧ r.np = ps.length ∧ r.ns = N.length ∧
    cBl (cS cn N n scope m) body = some r.body
section
variable {P : Program} {w : World} {mg : Str → Option Value} {base : Heap} {W : Wr} {D : Tbl} {cn : Cn}
/-- a def keeps the promise that its form tells -/
theorem fn_step0 {k f : Nat} {a : Addr} {x qual : Str} {params : Arguments} {body : List Stmt} {scope : Scope} {fd : FuncData} {ps N : List Str} {n m : Nat} {r : FnR} (FD : FunD W.K x qual params body scope [] [] a fd) (FS : FnScope N ps scope) (hr : D.fns[f]? = some r) (hnp : r.np = ps.length) (hns : r.ns = N.length)
    (hc : cBl (cS cn N n scope m) body = some r.body) (hp : ∀ X : Cx, X.prog = P → X.w = w → X.K = W.K → X.mg = mg → X.base = base → Pg W D (Fk D k) (2 * k) cn X) : FnOk P w W.K mg base C8.CX0 (2 * (k + 1)) a fd ps (spF W (Fk D (k + 1) f)) := by
  have hF : ∀ {as : List Arg} {y : RV} {ds : List Val}, Fk D (k + 1) f as = some (y, ds) → runFn D (Fk D k) r as = some (y, ds) := fun {as y ds} h => by
    unfold Fk at h
    simp only [hr] at h
    exact h
  refine FunD.ok (k := 2 * k + 1) FD FS (fun vs H Q E h => ?_) (fun cdv A outer s H vs Q E room h => ?_)
  · obtain ⟨G, as, y, ds, sb, A, hf, _⟩ := h
    obtain ⟨hl, _⟩ := runFn_some (hF hf)
    rw [← A.len, hl, hnp]
  · obtain ⟨G, as, y, ds, sb, A', hf, hQ⟩ := h
    obtain ⟨hl, o, ε', hb, ho, hx⟩ := runFn_some (hF hf)
    have hvl : vs.length = ps.length := by rw [← A'.len, hl, hnp]
    have hpl : ps.length ≤ N.length := by
      have := congrArg List.length FS.pre
      rw [List.length_take] at this
      omega
    refine ⟨tSt W (exB D (Fk D k) r.body), PSs.nox ?_, ?_⟩
    · have sx : SxOk W D (Fk D k) (2 * k) cn N (cxOf C8.CX0 P w W.K mg base N qual scope a cdv A outer s H E).nox scope :=
        { K := rfl, nd := FS.nd, N := rfl, calm := rfl, sc := rfl, room := room, pg := hp _ rfl rfl rfl rfl rfl, hp := PassesOwn.never, kind := FS.kind, st := ⟨fun y hy => by
            unfold stoB at hy
            split at hy
            · exact ⟨.inl (by assumption), .inl rfl⟩
            · exact ⟨.inr (by assumption), .inl rfl⟩
            · cases hy⟩ }
      exact cBl_ok (fun st s h => cS_ok sx m h) hc
    · refine ⟨G, startE r as, o, ε', start_rel sb A' hns (by rw [hvl]; exact hpl), hb, fun σ' H' G' st => ?_⟩
      rcases hx with rfl | ⟨rfl, rfl⟩
      · exact fun v q => hQ v H' G' (cst_of A' st ho q)
      · exact hQ .non H' G' (cst_of A' st ho (x := .v .non) .non)
theorem fn_step {k f : Nat} {a : Addr} (h : FnFact W.K D cn f a) (hp : ∀ X : Cx, X.prog = P → X.w = w → X.K = W.K → X.mg = mg → X.base = base → Pg W D (Fk D k) (2 * k) cn X) : ∃ fd ps, FnOk P w W.K mg base C8.CX0 (2 * (k + 1)) a fd ps (spF W (Fk D (k + 1) f)) ∧ PySem.W.keepIn W.K (.ref a) = true ∧ Binds W.K fd ps [] := by
  obtain ⟨x, qual, params, body, scope, fd, ps, N, n, m, r, FD, FS, bi, hr, hnp, hns, hc⟩ := h.ex
  exact ⟨fd, ps, fn_step0 FD FS hr hnp hns hc hp, FD.kp, bi⟩
/-- what stands in the text behind the top -/
structure Stat (w : World) (mg : Str → Option Value) (W : Wr) (D : Tbl) (cn : Cn) : Prop where
  fns : ∀ x f, cn.fns.lookup x = some f → ∃ a, mg x = some (.ref a) ∧ FnFact W.K D cn f a
  clss : ∀ x c, cn.clss.lookup x = some c → mg x = some (.ref (W.C c)) ∧ ∃ C, D.cls[c]? = some C ∧ ∃ a, Mk W.K (W.C c) a ∧ FnFact W.K D cn C.init a
  cons : ∀ x d, cn.cons.lookup x = some d → ∃ v u, mg x = some u ∧ RelV v u ∧ ∀ G, Rep W G d v
  blt : ∀ x ∈ bltNs, mg x = none
  meth : ∀ c C m f, D.cls[c]? = some C → C.meths.lookup m = some f → Cls W.K (W.C c) ∧ ∃ a, Meth W.K (W.C c) m a ∧ FnFact W.K D cn f a
  isf : IsF W.K W D.cls.length
  fld : ClsF W D
  kd : KdOk W w D.kds
theorem pg_of (S : Stat w mg W D cn) {F : FT} {lv : Nat} {X : Cx} (h1 : X.w = w) (h2 : X.K = W.K) (h3 : X.mg = mg) (hf : ∀ f a, FnFact W.K D cn f a → FnAt X W F lv f a) : Pg W D F lv cn X := by
  subst h1 h3
  refine ⟨fun x f e => ?_, fun x c e => ?_, S.cons, S.blt, fun c C m f e1 e2 => ?_, h2 ▸ S.isf, S.fld, S.kd⟩
  · obtain ⟨a, q1, q2⟩ := S.fns x f e
    exact ⟨a, q1, hf f a q2⟩
  · obtain ⟨q1, C, q2, a, q3, q4⟩ := S.clss x c e
    exact ⟨q1, C, q2, a, h2 ▸ q3, hf _ _ q4⟩
  · obtain ⟨q1, a, q2, q3⟩ := S.meth c C m f e1 e2
    exact ⟨h2 ▸ q1, a, h2 ▸ q2, hf _ _ q3⟩
/-- ALL DEFS keep their promises, to any depth -/
theorem fn_all (S : Stat w mg W D cn) (k : Nat) : ∀ f a, FnFact W.K D cn f a → ∃ fd ps, FnOk P w W.K mg base C8.CX0 (2 * k) a fd ps (spF W (Fk D k f)) ∧ PySem.W.keepIn W.K (.ref a) = true ∧ Binds W.K fd ps [] := by
  induction k with
  | zero =>
    intro f a h
    obtain ⟨x, qual, params, body, scope, fd, ps, N, n, m, r, FD, FS, bi, _⟩ := h.ex
    have no : ∀ {vs : List V} {H : Hp} {Q : VK} {E : XK}, spF W (Fk D 0 f) vs H Q E → False := fun {vs H Q E} h => by
      obtain ⟨_, _, _, _, _, _, e, _⟩ := h
      cases e
    exact ⟨fd, ps, ⟨fun vs H Q E h => (no h).elim, fun A outer s H args us vs Q E _ _ _ _ h => (no h).elim⟩, FD.kp, bi⟩
  | succ k ih =>
    intro f a h
    refine fn_step h fun X e1 e2 e3 e4 e5 => pg_of S e2 e3 e4 fun g b hg => ⟨?_⟩
    rw [e1, e2, e3, e4, e5]
    exact ih g b hg
end
end Eng
end
section
set_option Elab.async false
set_option linter.all false
set_option maxRecDepth 100000
set_option maxHeartbeats 4000000
/-! EZ: what stands in the text, by looks; the law's end. -/
namespace Eng
open PySem PySem.Spec PyProof.Rows L2 RZ
/-- a program's description -/
structure Spec where
  cn : Cn
  D : Tbl
  clsN : List Str
  kdN : List Str
  fat : List (Str × Option Str)
def Spec.w (sp : Spec) (K : PySem.W.Frag) : Wr where
  K := K
  C := fun c => He.ga K (sp.clsN.getD c "")
  kd := fun j => He.ga K (sp.kdN.getD j "")
/-! ### constants -/
mutual
def repB (K : PySem.W.Frag) (kd : Nat → Addr) : Val → Value → Bool
  | .non, .none => true
  | .bl b, .bool c => b == c
  | .int i, .int j _ => decide (i = j)
  | .str s, .str t _ => decide (s = t)
  | .kd j, .ref a => decide (a = kd j)
  | .tup ds, .ref a => match K.lookup a with
    | some ⟨.type "tuple", _, .seq its _, _⟩ => decide (its.size ≤ sizeLine) && repsB K kd ds its.toList
    | _ => false
  | _, _ => false
def repsB (K : PySem.W.Frag) (kd : Nat → Addr) : List Val → List Value → Bool
  | [], [] => true
  | d :: ds, u :: us => repB K kd d u && repsB K kd ds us
  | _, _ => false
end
mutual
theorem repB_ok (W : Wr) : ∀ (d : Val) (u : Value), repB W.K W.kd d u = true → ∃ v, RelV v u ∧ ∀ G, Rep W G d v
  | .non, u, h => by cases u <;> first | (cases h; done) | exact ⟨.non, rfl, fun _ => .non⟩
  | .bl b, u, h => by
    cases u <;> try (cases h; done)
    rename_i c
    have e : b = c := by simpa [repB] using h
    exact ⟨.bl b, by rw [e]; rfl, fun _ => .bl b⟩
  | .int i, u, h => by
    cases u <;> try (cases h; done)
    rename_i j t
    have e : i = j := by simpa [repB] using h
    exact ⟨.int i, ⟨t, by rw [e]⟩, fun _ => .int i⟩
  | .str s, u, h => by
    cases u <;> try (cases h; done)
    rename_i j t
    have e : s = j := by simpa [repB] using h
    exact ⟨.str s, ⟨t, by rw [e]⟩, fun _ => .str s⟩
  | .kd j, u, h => by
    cases u <;> try (cases h; done)
    rename_i a
    have e : a = W.kd j := by simpa [repB] using h
    exact ⟨.ref a, rfl, fun _ => e ▸ .kd j⟩
  | .tup ds, u, h => by
    cases u <;> try (cases h; done)
    rename_i a
    unfold repB at h
    split at h
    · rename_i x its n sl e
      simp only [Bool.and_eq_true, decide_eq_true_eq] at h
      obtain ⟨vs, r, k⟩ := repsB_ok W ds its.toList h.2
      exact ⟨.ref a, rfl, fun G => .tup (.inr ⟨_, its, n, e, rfl, rfl, h.1, r⟩) (k G)⟩
    · cases h
  | .lst _, u, h => by cases u <;> cases h
  | .dct _, u, h => by cases u <;> cases h
  | .ins _ _, u, h => by cases u <;> cases h
  | .scr _, u, h => by cases u <;> cases h
theorem repsB_ok (W : Wr) : ∀ (ds : List Val) (us : List Value), repsB W.K W.kd ds us = true → ∃ vs, Vals vs us ∧ ∀ G, Reps W G ds vs
  | [], [], _ => ⟨[], .nil, fun _ => .nil⟩
  | [], _ :: _, h => by cases h
  | _ :: _, [], h => by cases h
  | d :: ds, u :: us, h => by
    unfold repsB at h
    simp only [Bool.and_eq_true] at h
    obtain ⟨v, r, k⟩ := repB_ok W d u h.1
    obtain ⟨vs, rs, ks⟩ := repsB_ok W ds us h.2
    exact ⟨v :: vs, .cons r rs, fun G => .cons (k G) (ks G)⟩
end
def conB (sp : Spec) (K : PySem.W.Frag) : Bool := sp.cn.cons.all fun q => match PySem.W.nsIn K mainGlobals q.1 with
  | some (some u) => repB K (sp.w K).kd q.2 u
  | _ => false
/-! ### isinstance -/
def isfB (sp : Spec) (K : PySem.W.Frag) : Bool :=
  let W := sp.w K
  (List.range sp.D.cls.length).all fun c =>
    (tyNames.all fun t => decide (PySem.W.kitOne K (.type t) (.ref (W.C c)) = some false) && decide (PySem.W.kitOne K (.ref (W.C c)) (.type t) = some false)) &&
    ((List.range sp.D.cls.length).all fun d => decide (PySem.W.kitOne K (.ref (W.C c)) (.ref (W.C d)) = some (c == d))) &&
    decide (PySem.W.findIn K (.ref (W.C c)) "__class__" = some (some (.builtin "object.__class__"))) && decide (PySem.W.mroIn K (W.C c) (.type "object") = some true) &&
    decide (PySem.W.specialIn K (.builtin "object.__class__") "__get__" = some (some (.builtin "getset_descriptor.__get__"))) && decide (PySem.W.takesIn K (.builtin "object.__class__") = some true)
theorem isf_ok {sp : Spec} {K : PySem.W.Frag} (h : isfB sp K = true) (hc : ∀ c, c < sp.D.cls.length → Cls K ((sp.w K).C c)) : IsF K (sp.w K) sp.D.cls.length := by
  unfold isfB at h
  simp only [List.all_eq_true, Bool.and_eq_true, decide_eq_true_eq, List.mem_range] at h
  refine ⟨fun t ht d hd => ((h d hd).1.1.1.1.1 t ht).1, fun c d hcl hd => (h c hcl).1.1.1.1.2 d hd, fun c hcl t ht => ((h c hcl).1.1.1.1.1 t ht).2, fun c hcl => ⟨hc c hcl, (h c hcl).1.1.1.2, (h c hcl).1.1.2⟩, fun h0 => (h 0 h0).1.2, fun h0 => (h 0 h0).2⟩
/-! ### dicts of the text -/
def entsB (K : PySem.W.Frag) (kd : Nat → Addr) : List (Str × Val) → List DictEntry → Bool
  | [], [] => true
  | q :: qs, e :: es => (match e.key with
    | .str s _ => decide (s = q.1)
    | _ => false) && repB K kd q.2 e.val && entsB K kd qs es
  | _, _ => false
theorem entsB_ok (W : Wr) : ∀ (qs : List (Str × Val)) (es : List DictEntry), entsB W.K W.kd qs es = true → Paired (fun (kv : Str × Val) (e : DictEntry) => (∃ t, e.key = .str kv.1 t) ∧ ∃ v, RelV v e.val ∧ Rep W (fun _ => none) kv.2 v) qs es
  | [], [], _ => .nil
  | [], _ :: _, h => by cases h
  | _ :: _, [], h => by cases h
  | q :: qs, e :: es, h => by
    unfold entsB at h
    simp only [Bool.and_eq_true] at h
    refine .cons ⟨?_, ?_⟩ (entsB_ok W qs es h.2)
    · have h1 := h.1.1
      split at h1
      · rename_i s t he
        have : s = q.1 := of_decide_eq_true h1
        exact ⟨t, by rw [he, this]⟩
      · cases h1
    · obtain ⟨v, r, k⟩ := repB_ok W q.2 e.val h.1.2
      exact ⟨v, r, k _⟩
def kdB (sp : Spec) (K : PySem.W.Frag) : Bool := (List.range sp.D.kds.length).all fun j => match K.lookup ((sp.w K).kd j) with
  | some ⟨_, _, .dict es _, _⟩ => entsB K (sp.w K).kd (sp.D.kds.getD j []) es.toList
  | _ => false
def Spec.tabs (sp : Spec) : List He.Tab := (List.range sp.D.kds.length).map fun j => (fun K => (sp.w K).kd j, (sp.D.kds.getD j []).map (·.1))
theorem lookup_mem' {α : Type} {x : Str} {y : α} : ∀ {l : List (Str × α)}, l.lookup x = some y → (x, y) ∈ l
  | [], h => by cases h
  | (a, b) :: r, h => by
    rw [List.lookup_cons] at h
    split at h
    · rename_i e
      cases h
      rw [beq_iff_eq.mp e]
      exact List.mem_cons_self
    · exact List.mem_cons_of_mem _ (lookup_mem' h)
theorem KDict.val {K : PySem.W.Frag} {w : World} {a : Addr} {es es2 : Array DictEntry} {n n2 : Nat} {c : Value} {od : Option Addr} {sl : Array (Option Value)} (h : KDict K w a es n) (e : K.lookup a = some ⟨c, od, .dict es2 n2, sl⟩) : es2 = es := by
  have := h.at_
  rw [e] at this
  cases this
  rfl
theorem kd_ok {sp : Spec} {K : PySem.W.Frag} {w : World} {fa : List He.Fa} {fn : List He.DefD} (h : kdB sp K = true) (t : He.SaysT fa fn sp.tabs w K) : KdOk (sp.w K) w sp.D.kds := by
  refine ⟨fun j kvs hj => ?_⟩
  have hl : j < sp.D.kds.length := (List.getElem?_eq_some_iff.mp hj).1
  have hg : sp.D.kds.getD j [] = kvs := by rw [List.getD_eq_getElem?_getD, hj]; rfl
  have ht : sp.tabs[j]? = some (fun K => (sp.w K).kd j, (sp.D.kds.getD j []).map (·.1)) := by
    unfold Spec.tabs
    rw [List.getElem?_map, List.getElem?_range hl]; rfl
  obtain ⟨es, n, D⟩ := t.tab j ht
  have hb := List.all_eq_true.mp h j (List.mem_range.mpr hl)
  refine ⟨es, n, D, ?_⟩
  split at hb
  · rename_i c od es2 n2 sl e
    have e2 := KDict.val D e
    subst e2
    rw [← hg]
    exact entsB_ok (sp.w K) _ _ hb
  · cases hb
/-! ### everything -/
def Spec.cls (sp : Spec) (c : Nat) : Str := sp.clsN.getD c ""
def Spec.clsFacts (sp : Spec) (c : Nat) (C : ClsR) : List He.Fa := .cls (sp.cls c) :: .mkr (sp.cls c) :: (C.flds.map fun f => .noat (sp.cls c) f) ++ C.meths.map fun q => .meth (sp.cls c) q.1
def Spec.facts (sp : Spec) : List He.Fa :=
  (sp.cn.fns.map fun q => .glo q.1) ++ (sp.cn.clss.map fun q => .glo q.1) ++ (bltNs.map fun x => .free x) ++ (List.range sp.D.cls.length).flatMap fun c => match sp.D.cls[c]? with
    | some C => sp.clsFacts c C
    | none => []
/-- what of the description is seen without the text -/
def Spec.okB (sp : Spec) : Bool :=
  (sp.cn.fns.all fun q => decide (sp.fat[q.2]? = some (q.1, none))) && (sp.cn.clss.all fun q => decide (sp.cls q.2 = q.1) && decide (q.2 < sp.D.cls.length)) &&
  ((List.range sp.D.cls.length).all fun c => match sp.D.cls[c]? with
    | some C => decide (sp.fat[C.init]? = some (sp.cls c, some ("__init__" : Str))) && (C.meths.all fun q => decide (sp.fat[q.2]? = some (sp.cls c, some q.1)))
    | none => false)
def Spec.ex (sp : Spec) (K : PySem.W.Frag) : Bool := conB sp K && isfB sp K && kdB sp K
/-- a def's form -/
structure FF (sp : Spec) (fn : List He.DefD) (f : Nat) : Prop where
  ex : ∃ (d : He.DefD) (ps N : List Str) (n m : Nat) (r : FnR), d ∈ fn ∧ sp.fat[f]? = some d.at_ ∧ d.dfl = [] ∧ d.kwd = [] ∧ FnScope N ps d.scope ∧ sp.D.fns[f]? = some r ∧ r.np = ps.length ∧ r.ns = N.length ∧ cBl (cS sp.cn N n d.scope m) d.body = some r.body ∧
    ∀ (kV doc pm : Value) (an : Option Addr) (cdv ct : Value) (us : List Value), us.length = ps.length → bindArgs (PySem.W.fnOf d.name d.qual d.params d.body d.scope .none kV doc pm an cdv ct) ⟨us, []⟩ = pure (ps.zip us)
section
variable {sp : Spec} {fn : List He.DefD} {K : PySem.W.Frag} {w : World}
theorem ff_fact (c : He.SaysD sp.facts fn K) {f : Nat} {p : Str × Option Str} (h : FF sp fn f) (hp : sp.fat[f]? = some p) : FnFact K sp.D sp.cn f (He.fAd K p) := by
  obtain ⟨d, ps, N, n, m, r, hd, ha, h1, h2, FS, hr, hnp, hns, hc, hb⟩ := h.ex
  rw [ha] at hp
  cases hp
  obtain ⟨fd, FD⟩ := c.defs hd
  have e1 : d.dvs K = [] := by unfold He.DefD.dvs; rw [h1]; rfl
  have e2 : d.kws K = [] := by unfold He.DefD.kws; rw [h2]; rfl
  rw [e1, e2] at FD
  exact ⟨_, _, _, _, _, fd, ps, N, n, m, r, FD, FS, FD.bindsN hb, hr, hnp, hns, hc⟩
theorem mem_cls {c : Nat} {C : ClsR} (h : sp.D.cls[c]? = some C) {f : He.Fa} (hf : f ∈ sp.clsFacts c C) : f ∈ sp.facts := by
  unfold Spec.facts
  refine List.mem_append_right _ (List.mem_flatMap.mpr ⟨c, List.mem_range.mpr (List.getElem?_eq_some_iff.mp h).1, ?_⟩)
  rw [h]; exact hf
theorem stat_of (ok : sp.okB = true) (FFs : ∀ f p, sp.fat[f]? = some p → FF sp fn f) {h : Heap} {mg : Str → Option Value} (X : K.In h) (G : h.Ns mainGlobals mg) (t : He.SaysT sp.facts fn sp.tabs w K) (ex : sp.ex K = true) : Stat w mg (sp.w K) sp.D sp.cn := by
  have c := t.d
  unfold Spec.okB at ok
  simp only [Bool.and_eq_true, List.all_eq_true, decide_eq_true_eq] at ok
  obtain ⟨⟨o1, o2⟩, o3⟩ := ok
  unfold Spec.ex at ex
  simp only [Bool.and_eq_true] at ex
  obtain ⟨⟨x1, x2⟩, x3⟩ := ex
  have clsD : ∀ {k : Nat} {C : ClsR}, sp.D.cls[k]? = some C → sp.fat[C.init]? = some (sp.cls k, some ("__init__" : Str)) ∧ ∀ q ∈ C.meths, sp.fat[q.2]? = some (sp.cls k, some q.1) := fun {k C} e => by
    have := o3 k (List.mem_range.mpr (List.getElem?_eq_some_iff.mp e).1)
    rw [e] at this
    simp only [Bool.and_eq_true, List.all_eq_true, decide_eq_true_eq] at this
    exact this
  have cc : ∀ {k : Nat} {C : ClsR}, sp.D.cls[k]? = some C → Cls K ((sp.w K).C k) := fun {k C} e => He.cls_ok (c.facts (mem_cls e (List.mem_append_left _ List.mem_cons_self)))
  have some_cls : ∀ {k : Nat}, k < sp.D.cls.length → ∃ C, sp.D.cls[k]? = some C := fun {k} h => ⟨_, List.getElem?_eq_getElem h⟩
  refine ⟨fun x f e => ?_, fun x k e => ?_, fun x d e => ?_, fun x hx => ?_, fun k C m f e1 e2 => ?_, isf_ok x2 fun k hk => ?_, fun k f hf => ?_, kd_ok x3 t⟩
  · have hm := lookup_mem' e
    have hp := o1 (x, f) hm
    exact ⟨_, He.glo_ok X G (c.facts (by unfold Spec.facts; exact List.mem_append_left _ (List.mem_append_left _ (List.mem_append_left _ (List.mem_map.mpr ⟨(x, f), hm, rfl⟩))))), ff_fact c (FFs f _ hp) hp⟩
  · have hm := lookup_mem' e
    obtain ⟨h1, h2⟩ := o2 (x, k) hm
    obtain ⟨C, hC⟩ := some_cls h2
    have h1 : sp.cls k = x := h1
    have g := He.glo_ok X G (c.facts (f := .glo x) (by unfold Spec.facts; exact List.mem_append_left _ (List.mem_append_left _ (List.mem_append_right _ (List.mem_map.mpr ⟨(x, k), hm, rfl⟩)))))
    have hW : (sp.w K).C k = He.ga K x := by rw [← h1]; rfl
    refine ⟨by rw [hW]; exact g, C, hC, _, ?_, ff_fact c (FFs _ _ (clsD hC).1) (clsD hC).1⟩
    exact He.mkr_ok (c.facts (mem_cls hC (List.mem_append_left _ (List.mem_cons_of_mem _ List.mem_cons_self))))
  · have hm := lookup_mem' e
    have hb := List.all_eq_true.mp x1 (x, d) hm
    simp only at hb
    split at hb
    · rename_i u eu
      obtain ⟨v, r, k⟩ := repB_ok (sp.w K) d u hb
      exact ⟨v, u, PySem.W.mg_of X G eu, r, k⟩
    · cases hb
  · exact He.free_ok X G (c.facts (by unfold Spec.facts; exact List.mem_append_left _ (List.mem_append_right _ (List.mem_map.mpr ⟨x, hx, rfl⟩))))
  · have hm := lookup_mem' e2
    have hp := (clsD e1).2 (m, f) hm
    exact ⟨cc e1, _, He.meth_ok (c.facts (mem_cls e1 (by unfold Spec.clsFacts; exact List.mem_append_right _ (List.mem_map.mpr ⟨(m, f), hm, rfl⟩)))), ff_fact c (FFs f _ hp) hp⟩
  · obtain ⟨C, hC⟩ := some_cls hk
    exact cc hC
  · unfold hasFld at hf
    split at hf
    · rename_i C hC
      have hm : f ∈ C.flds := by simpa using hf
      exact ⟨cc hC, He.noat_ok (c.facts (mem_cls hC (by unfold Spec.clsFacts; exact List.mem_append_left _ (List.mem_cons_of_mem _ (List.mem_cons_of_mem _ (List.mem_map.mpr ⟨f, hm, rfl⟩))))))⟩
    · cases hf
end
end Eng
end
section
set_option Elab.async false
set_option linter.all false
set_option maxRecDepth 100000
set_option maxHeartbeats 4000000
/-! FA: a law's end. -/
namespace Eng
open PySem PySem.Spec PyProof.Rows L2 RZ
/-- the law's own def -/
structure FL (sp : Spec) (fn : List He.DefD) (li : Nat) : Prop where
  ex : ∃ (d : He.DefD) (N : List Str) (n m : Nat) (r : FnR), d ∈ fn ∧ d.at_ = (("law" : Str), none) ∧ d.dfl = [] ∧ d.kwd = [] ∧ FnScope N ["script"] d.scope ∧ sp.D.fns[li]? = some r ∧ r.np = 1 ∧ r.ns = N.length ∧ cBl (cS sp.cn N n d.scope m) d.body = some r.body ∧
    ∀ (kV doc pm : Value) (an : Option Addr) (cdv ct : Value) (us : List Value), us.length = 1 → bindArgs (PySem.W.fnOf d.name d.qual d.params d.body d.scope .none kV doc pm an cdv ct) ⟨us, []⟩ = pure ((["script"] : List Str).zip us)
theorem walk_E {l : PySem.W.OpenLaw} {n k li nn : Nat} {q : Program} {loose : List Str} {XP : (Str → Option Value) → Heap → Prop} {d : DefRec} {sp : Spec} {fn : List He.DefD}
    (hn : l.most = some n) (hn2 : n ≤ sizeLine) (hdf : d.params.defaults = []) (hr : Room (2 * (k + 1)) callerA) (hd : d.name = ("law" : Str)) (ok : sp.okB = true) (FFs : ∀ f p, sp.fat[f]? = some p → FF sp fn f) (hl : FL sp fn li) (hfl : sp.cn.fns.lookup ("law" : Str) = some li)
    (hlaw : ∀ ns : List Int, ns.length ≤ n → ∃ ds, Fk sp.D (k + 1) li [.val (.scr ns)] = some (.v (.bl true), ds)) :
    PySem.W.WalkO q loose XP (He.hookX nn sp.facts fn sp.tabs [] sp.ex).says l.row.toRowW d [] (fun f vs => PySem.call f vs) := by
  refine L2.walk_ofE (x := "script") (CX := C8.CX0) hn hn2 hdf hr ?_ (fun _ _ _ _ z => z)
  intro w mg fa h Y G hmg
  obtain ⟨K, KX, s⟩ := Y
  have S : Stat w mg (sp.w K) sp.D sp.cn := stat_of ok FFs KX G s.t s.more
  have c := s.t.d
  obtain ⟨d', N, n', m, r, hd', ha, h1, h2, FS, hrr, hnp, hns, hc, hb⟩ := hl.ex
  obtain ⟨fd, FD⟩ := c.defs hd'
  have e1 : d'.dvs K = [] := by unfold He.DefD.dvs; rw [h1]; rfl
  have e2 : d'.kws K = [] := by unfold He.DefD.kws; rw [h2]; rfl
  rw [e1, e2, ha] at FD
  have gl : mg ("law" : Str) = some (.ref (He.ga K "law")) := He.glo_ok KX G (c.facts (by unfold Spec.facts; exact List.mem_append_left _ (List.mem_append_left _ (List.mem_append_left _ (List.mem_map.mpr ⟨(("law" : Str), li), lookup_mem' hfl, rfl⟩)))))
  rw [hd, gl] at hmg
  cases hmg
  refine ⟨K, fd, spF (sp.w K) (Fk sp.D (k + 1) li), KX, fun s u => FD.bindsA (ps := ["script"]) hb s [u] rfl, fun H a ns hlen _ hS => ?_, fun base _ _ => ?_⟩
  · obtain ⟨ds, e⟩ := hlaw ns hlen
    refine ⟨H, [.val (.scr ns)], .v (.bl true), ds, Sub.refl _, ⟨rfl, fun i d h => ?_, fun i d h => ?_, fun i j a d e h => ?_⟩, e, fun v H' G' cst => ?_⟩
    · cases i with
      | zero => cases h; exact ⟨.ref a, rfl, .scr hS⟩
      | succ i => cases h
    · cases i with
      | zero => cases h
      | succ i => cases h
    · cases i with
      | zero => cases h
      | succ i => cases h
    · have res := cst.res
      cases (show Rep (sp.w K) G' (.bl true) v from res)
      rfl
  · exact fn_step0 (W := sp.w K) (cn := sp.cn) FD FS hrr hnp hns hc fun X f1 f2 f3 f4 f5 => pg_of S f2 f3 f4 fun g b hg => ⟨by rw [f1, f2, f3, f4, f5]; exact fn_all S k g b hg⟩
end Eng
end
section
set_option Elab.async false
set_option linter.all false
set_option maxRecDepth 100000
set_option maxHeartbeats 4000000
/-! P0: small facts for evaluation by simp. -/
namespace Eng
open PySem
def Sl (l : List Nat) : Str := ⟨l.toArray⟩
theorem Sl_eq (a b : List Nat) : (Sl a = Sl b) = (a = b) := by
  apply propext
  constructor
  · intro h
    have h2 := congrArg (fun s : Str => s.cps.toList) h
    simpa [Sl] using h2
  · intro h; rw [h]
theorem Sl_beq (a b : List Nat) : (Sl a == Sl b) = decide (a = b) := by
  rw [Bool.eq_iff_iff, beq_iff_eq, decide_eq_true_eq, Sl_eq]
theorem Sl_toList (a : List Nat) : (Sl a).cps.toList = a := by simp [Sl]
theorem Sl_length (a : List Nat) : (Sl a).length = a.length := by simp [Sl, Str.length]
theorem outs_nil {ε : Env} : outsOf [] ε = some [] := by cases ε <;> rfl
theorem outs_val {v : Val} {as : List Arg} {s : Slot} {ε : Env} : outsOf (.val v :: as) (s :: ε) = (match outsOf as ε with | some ds => some (v :: ds) | none => none) := rfl
theorem outs_lent {v d : Val} {as : List Arg} {ε : Env} : outsOf (.lent v :: as) (.lent d :: ε) = (match outsOf as ε with | some ds => some (d :: ds) | none => none) := rfl
/-! ### the evaluator, form by form -/
theorem ev_lit {D : Tbl} {F : FT} {d} {ε} : evE D F (.lit d) (ε) = (some (.v d, ε)) := by
  conv => lhs; unfold evE
  all_goals rfl
theorem ev_var {D : Tbl} {F : FT} {i} {ε} : evE D F (.var i) (ε) = (match look (.b i) ε with
    | some _ => some (.b i, ε)
    | none => none) := by
  conv => lhs; unfold evE
  all_goals rfl
theorem ev_tup {D : Tbl} {F : FT} {es} {ε} : evE D F (.tup es) (ε) = (match evF D F es ε with
    | some (ds, ε1) => some (.v (.tup ds), ε1)
    | none => none) := by
  conv => lhs; unfold evE
  all_goals rfl
theorem ev_lst {D : Tbl} {F : FT} {es} {ε} : evE D F (.lst es) (ε) = (match evF D F es ε with
    | some (ds, ε1) => some (.o (.lst ds), ε1)
    | none => none) := by
  conv => lhs; unfold evE
  all_goals rfl
theorem ev_dsp {D : Tbl} {F : FT} {ps} {ε} : evE D F (.dsp ps) (ε) = (match evD D F ps ε [] with
    | some (kvs, ε1) => some (.o (.dct kvs), ε1)
    | none => none) := by
  conv => lhs; unfold evE
  all_goals rfl
theorem ev_bin {D : Tbl} {F : FT} {op} {a} {b} {ε} : evE D F (.bin op a b) (ε) = (match evE D F a ε with
    | some (x, ε1) => match evE D F b ε1 with
      | some (y, ε2) => match look x ε2, look y ε2 with
        | some d, some e => ofR (binop op d e) ε2
        | _, _ => none
      | none => none
    | none => none) := by
  conv => lhs; unfold evE
  all_goals rfl
theorem ev_neg {D : Tbl} {F : FT} {a} {ε} : evE D F (.neg a) (ε) = (match ivR (evE D F a ε) with
    | some (i, ε1) => some (.v (.int (-i)), ε1)
    | none => none) := by
  conv => lhs; unfold evE
  all_goals rfl
theorem ev_cmp {D : Tbl} {F : FT} {op} {a} {b} {ε} : evE D F (.cmp op a b) (ε) = (match evE D F a ε with
    | some (x, ε1) => match evE D F b ε1 with
      | some (y, ε2) => match look x ε2, look y ε2 with
        | some d, some e => ofBl (cmpo D.kds op d e) ε2
        | _, _ => none
      | none => none
    | none => none) := by
  conv => lhs; unfold evE
  all_goals rfl
theorem ev_chn {D : Tbl} {F : FT} {op} {op'} {a} {b} {c} {ε} : evE D F (.chn op op' a b c) (ε) = (match evE D F a ε with
    | some (x, ε1) => match evE D F b ε1 with
      | some (y, ε2) => match look x ε2, look y ε2 with
        | some d, some e => match cmpo D.kds op d e with
          | some false => some (.v (.bl false), ε2)
          | some true => match evE D F c ε2 with
            | some (z, ε3) => match look y ε3, look z ε3 with
              | some e', some g => ofBl (cmpo D.kds op' e' g) ε3
              | _, _ => none
            | none => none
          | none => none
        | _, _ => none
      | none => none
    | none => none) := by
  conv => lhs; unfold evE
  all_goals rfl
theorem ev_and2 {D : Tbl} {F : FT} {a} {b} {ε} : evE D F (.and2 a b) (ε) = (match evE D F a ε with
    | some (r, ε1) => match truR r ε1 with
      | some false => some (r, ε1)
      | some true => evE D F b ε1
      | none => none
    | none => none) := by
  conv => lhs; unfold evE
  all_goals rfl
theorem ev_or2 {D : Tbl} {F : FT} {a} {b} {ε} : evE D F (.or2 a b) (ε) = (match evE D F a ε with
    | some (r, ε1) => match truR r ε1 with
      | some true => some (r, ε1)
      | some false => evE D F b ε1
      | none => none
    | none => none) := by
  conv => lhs; unfold evE
  all_goals rfl
theorem ev_not {D : Tbl} {F : FT} {a} {ε} : evE D F (.not a) (ε) = (match tsR (evE D F a ε) with
    | some (b, ε1) => some (.v (.bl (!b)), ε1)
    | none => none) := by
  conv => lhs; unfold evE
  all_goals rfl
theorem ev_ife {D : Tbl} {F : FT} {c} {a} {b} {ε} : evE D F (.ife c a b) (ε) = (match tsR (evE D F c ε) with
    | some (true, ε1) => evE D F a ε1
    | some (false, ε1) => evE D F b ε1
    | none => none) := by
  conv => lhs; unfold evE
  all_goals rfl
theorem ev_ix {D : Tbl} {F : FT} {a} {i} {ε} : evE D F (.ix a i) (ε) = (match evE D F a ε with
    | some (x, ε1) => match evE D F i ε1 with
      | some (y, ε2) => match look x ε2, look y ε2 with
        | some d, some e => ofV (item D.kds d e) ε2
        | _, _ => none
      | none => none
    | none => none) := by
  conv => lhs; unfold evE
  all_goals rfl
theorem ev_slc {D : Tbl} {F : FT} {a} {lo} {hi} {ε} : evE D F (.slc a lo hi) (ε) = (match evE D F a ε with
    | some (x, ε1) => match evO D F lo ε1 with
      | some (l, ε2) => match evO D F hi ε2 with
        | some (h, ε3) => match look x ε3 with
          | some d => ofR (slice d l h) ε3
          | none => none
        | none => none
      | none => none
    | none => none) := by
  conv => lhs; unfold evE
  all_goals rfl
theorem ev_fld {D : Tbl} {F : FT} {a} {f} {ε} : evE D F (.fld a f) (ε) = (match evE D F a ε with
    | some (x, ε1) => match look x ε1 with
      | some d => ofV (fldOf D f d) ε1
      | none => none
    | none => none) := by
  conv => lhs; unfold evE
  all_goals rfl
theorem ev_call {D : Tbl} {F : FT} {f} {as} {ε} : evE D F (.call f as) (ε) = (match evA D F as ε with
    | some (rs, ε1) => doCall (F f) rs ε1
    | none => none) := by
  conv => lhs; unfold evE
  all_goals rfl
theorem ev_meth {D : Tbl} {F : FT} {m} {r} {as} {ε} : evE D F (.meth m r as) (ε) = (match evE D F r ε with
    | some (x, ε1) => match look x ε1 with
      | some d => match clsOf D m d with
        | some f => match evA D F as ε1 with
          | some (rs, ε2) => doCall (F f) (x :: rs) ε2
          | none => none
        | none => none
      | none => none
    | none => none) := by
  conv => lhs; unfold evE
  all_goals rfl
theorem ev_make {D : Tbl} {F : FT} {c} {as} {ε} : evE D F (.make c as) (ε) = (match evA D F as ε with
    | some (rs, ε1) => mkI D F c rs ε1
    | none => none) := by
  conv => lhs; unfold evE
  all_goals rfl
theorem ev_blt {D : Tbl} {F : FT} {b} {as} {ε} : evE D F (.blt b as) (ε) = (match evA D F as ε with
    | some (rs, ε1) => match looks rs ε1 with
      | some ds => ofR (blt b ds) ε1
      | none => none
    | none => none) := by
  conv => lhs; unfold evE
  all_goals rfl
theorem ev_dget1 {D : Tbl} {F : FT} {a} {k} {ε} : evE D F (.dget1 a k) (ε) = (match evE D F a ε with
    | some (x, ε1) => if isDct (look x ε1) then match evE D F k ε1 with
        | some (y, ε2) => match look x ε2, look y ε2 with
          | some d, some e => ofR (bGet1 [d, e]) ε2
          | _, _ => none
        | none => none
      else none
    | none => none) := by
  conv => lhs; unfold evE
  all_goals rfl
theorem ev_dget2 {D : Tbl} {F : FT} {a} {k} {z} {ε} : evE D F (.dget2 a k z) (ε) = (match evE D F a ε with
    | some (x, ε1) => if isDct (look x ε1) then match evE D F k ε1 with
        | some (y, ε2) => match vlR (evE D F z ε2) with
          | some (g, ε3) => match look x ε3, look y ε3 with
            | some d, some e => ofR (bGet2 [d, e, g]) ε3
            | _, _ => none
          | none => none
        | none => none
      else none
    | none => none) := by
  conv => lhs; unfold evE
  all_goals rfl
theorem ev_isB {D : Tbl} {F : FT} {a} {t} {ε} : evE D F (.isB a t) (ε) = (match evE D F a ε with
    | some (x, ε1) => match look x ε1 with
      | some d => ofBl (isBt D.cls.length d t) ε1
      | none => none
    | none => none) := by
  conv => lhs; unfold evE
  all_goals rfl
theorem ev_isC {D : Tbl} {F : FT} {a} {c} {ε} : evE D F (.isC a c) (ε) = (match evE D F a ε with
    | some (x, ε1) => match look x ε1 with
      | some d => ofBl (isCt D.cls.length d c) ε1
      | none => none
    | none => none) := by
  conv => lhs; unfold evE
  all_goals rfl
theorem fv_nil0 {D : Tbl} {F : FT} {ε} : evF D F (.nil) (ε) = (some ([], ε)) := by
  conv => lhs; unfold evF
  all_goals rfl
theorem fv_cons1 {D : Tbl} {F : FT} {e} {es} {ε} : evF D F (.cons e es) (ε) = (match vlR (evE D F e ε) with
    | some (d, ε1) => match evF D F es ε1 with
      | some (ds, ε2) => some (d :: ds, ε2)
      | none => none
    | none => none) := by
  conv => lhs; unfold evF
  all_goals rfl
theorem av_nil0 {D : Tbl} {F : FT} {ε} : evA D F (.nil) (ε) = (some ([], ε)) := by
  conv => lhs; unfold evA
  all_goals rfl
theorem av_cons1 {D : Tbl} {F : FT} {e} {es} {ε} : evA D F (.cons e es) (ε) = (match evE D F e ε with
    | some (d, ε1) => match evA D F es ε1 with
      | some (ds, ε2) => some (d :: ds, ε2)
      | none => none
    | none => none) := by
  conv => lhs; unfold evA
  all_goals rfl
theorem dv_nil0 {D : Tbl} {F : FT} {ε} {acc} : evD D F (.nil) (ε) (acc) = (some (acc, ε)) := by
  conv => lhs; unfold evD
  all_goals rfl
theorem dv_cons1 {D : Tbl} {F : FT} {k} {v} {ps} {ε} {acc} : evD D F (.cons k (.cons v ps)) (ε) (acc) = (match vlR (evE D F k ε) with
    | some (d, ε1) => match keyOf d with
      | some k => match vlR (evE D F v ε1) with
        | some (x, ε2) => evD D F ps ε2 (dput acc k x)
        | none => none
      | none => none
    | none => none) := by
  conv => lhs; unfold evD
  all_goals rfl
theorem ov_no0 {D : Tbl} {F : FT} {ε} : evO D F (.no) (ε) = (some (none, ε)) := by
  conv => lhs; unfold evO
  all_goals rfl
theorem ov_so1 {D : Tbl} {F : FT} {e} {ε} : evO D F (.so e) (ε) = (match ivR (evE D F e ε) with
    | some (i, ε1) => some (some i, ε1)
    | none => none) := by
  conv => lhs; unfold evO
  all_goals rfl
theorem tv_nil0 {D : Tbl} {F : FT} {ε} : evTs D F (.nil) (ε) = (some (true, ε)) := by
  conv => lhs; unfold evTs
  all_goals rfl
theorem tv_cons1 {D : Tbl} {F : FT} {e} {ε} : evTs D F (.cons e .nil) (ε) = (tsR (evE D F e ε)) := by
  conv => lhs; unfold evTs
  all_goals rfl
theorem iv_seq0 {D : Tbl} {F : FT} {e} {ε} : evI D F (.seq e) (ε) = (match evE D F e ε with
    | some (x, ε1) => match look x ε1 with
      | some d => match walkV d with
        | some xs => some (x, xs, ε1)
        | none => none
      | none => none
    | none => none) := by
  conv => lhs; unfold evI
  all_goals rfl
theorem iv_rng11 {D : Tbl} {F : FT} {e} {ε} : evI D F (.rng1 e) (ε) = (match ivR (evE D F e ε) with
    | some (i, ε1) => if inR i then some (.v .non, rangeV 0 i, ε1) else none
    | none => none) := by
  conv => lhs; unfold evI
  all_goals rfl
theorem iv_rng22 {D : Tbl} {F : FT} {a} {b} {ε} : evI D F (.rng2 a b) (ε) = (match ivR (evE D F a ε) with
    | some (i, ε1) => match ivR (evE D F b ε1) with
      | some (j, ε2) => if inR i && inR j then some (.v .non, rangeV i j, ε2) else none
      | none => none
    | none => none) := by
  conv => lhs; unfold evI
  all_goals rfl
theorem iv_enum3 {D : Tbl} {F : FT} {e} {ε} : evI D F (.enum e) (ε) = (match vlR (evE D F e ε) with
    | some (d, ε1) => match itemsOf d with
      | some xs => some (.v .non, enumV 0 xs, ε1)
      | none => none
    | none => none) := by
  conv => lhs; unfold evI
  all_goals rfl
theorem iv_zip4 {D : Tbl} {F : FT} {a} {b} {ε} : evI D F (.zip a b) (ε) = (match vlR (evE D F a ε) with
    | some (d, ε1) => match vlR (evE D F b ε1) with
      | some (e, ε2) => match zipD d e with
        | some zs => some (.v .non, zs, ε2)
        | none => none
      | none => none
    | none => none) := by
  conv => lhs; unfold evI
  all_goals rfl
theorem xs_exp {D : Tbl} {F : FT} {e} {ε} : exS D F (.exp e) (ε) = (match evE D F e ε with
    | some (_, ε1) => some (.nx, ε1)
    | none => none) := by
  conv => lhs; unfold exS
  all_goals rfl
theorem xs_asg {D : Tbl} {F : FT} {i} {e} {ε} : exS D F (.asg i e) (ε) = (match evE D F e ε with
    | some (r, ε1) => match sto i r ε1 with
      | some ε2 => some (.nx, ε2)
      | none => none
    | none => none) := by
  conv => lhs; unfold exS
  all_goals rfl
theorem xs_asgT {D : Tbl} {F : FT} {ts} {e} {ε} : exS D F (.asgT ts e) (ε) = (match vlR (evE D F e ε) with
    | some (.tup ds, ε1) => if ds.length = ts.length then match tgsV D F ts ds ε1 with
        | some ε2 => some (.nx, ε2)
        | none => none
      else none
    | _ => none) := by
  conv => lhs; unfold exS
  all_goals rfl
theorem xs_par {D : Tbl} {F : FT} {is} {es} {ε} : exS D F (.par is es) (ε) = (match evA D F es ε with
    | some (rs, ε1) => match parS rs ε1 with
      | some ss => match stosP is ss ε1 with
        | some ε2 => some (.nx, ε2)
        | none => none
      | none => none
    | none => none) := by
  conv => lhs; unfold exS
  all_goals rfl
theorem xs_fldS {D : Tbl} {F : FT} {o} {f} {e} {ε} : exS D F (.fldS o f e) (ε) = (match vlR (evE D F e ε) with
    | some (v, ε1) => match evE D F o ε1 with
      | some (x, ε2) => match look x ε2 with
        | some d => match setFld D f v d with
          | some d' => match wrt x d' ε2 with
            | some ε3 => some (.nx, ε3)
            | none => none
          | none => none
        | none => none
      | none => none
    | none => none) := by
  conv => lhs; unfold exS
  all_goals rfl
theorem xs_subS {D : Tbl} {F : FT} {o} {i} {e} {ε} : exS D F (.subS o i e) (ε) = (match vlR (evE D F e ε) with
    | some (v, ε1) => match tgV D F (.sub o i) v ε1 with
      | some ε2 => some (.nx, ε2)
      | none => none
    | none => none) := by
  conv => lhs; unfold exS
  all_goals rfl
theorem xs_app {D : Tbl} {F : FT} {i} {e} {ε} : exS D F (.app i e) (ε) = (if isLst (look (.b i) ε) then match vlR (evE D F e ε) with
      | some (v, ε1) => match look (.b i) ε1 with
        | some (.lst xs) => if xs.length < cap then match wrt (.b i) (.lst (xs ++ [v])) ε1 with
            | some ε2 => some (.nx, ε2)
            | none => none
          else none
        | _ => none
      | none => none
    else none) := by
  conv => lhs; unfold exS
  all_goals rfl
theorem xs_ife {D : Tbl} {F : FT} {c} {a} {b} {ε} : exS D F (.ife c a b) (ε) = (match tsR (evE D F c ε) with
    | some (true, ε1) => exB D F a ε1
    | some (false, ε1) => exB D F b ε1
    | none => none) := by
  conv => lhs; unfold exS
  all_goals rfl
theorem xs_ret {D : Tbl} {F : FT} {e} {ε} : exS D F (.ret e) (ε) = (match evE D F e ε with
    | some (r, ε1) => match mv r ε1 with
      | some (r2, ε2) => some (.rt r2, ε2)
      | none => none
    | none => none) := by
  conv => lhs; unfold exS
  all_goals rfl
theorem xs_retN {D : Tbl} {F : FT} {ε} : exS D F (.retN) (ε) = (some (.rt (.v .non), ε)) := by
  conv => lhs; unfold exS
  all_goals rfl
theorem xs_pass {D : Tbl} {F : FT} {ε} : exS D F (.pass) (ε) = (some (.nx, ε)) := by
  conv => lhs; unfold exS
  all_goals rfl
theorem xs_brk {D : Tbl} {F : FT} {ε} : exS D F (.brk) (ε) = (some (.bk, ε)) := by
  conv => lhs; unfold exS
  all_goals rfl
theorem xs_cont {D : Tbl} {F : FT} {ε} : exS D F (.cont) (ε) = (some (.ct, ε)) := by
  conv => lhs; unfold exS
  all_goals rfl
theorem xb_nil0 {D : Tbl} {F : FT} {ε} : exB D F (.nil) (ε) = (some (.nx, ε)) := by
  conv => lhs; unfold exB
  all_goals rfl
theorem xb_cons1 {D : Tbl} {F : FT} {s} {ss} {ε} : exB D F (.cons s ss) (ε) = (match exS D F s ε with
    | some (.nx, ε1) => exB D F ss ε1
    | r => r) := by
  conv => lhs; unfold exB
  all_goals rfl
/-! ### comprehensions that change nothing outside -/
theorem restE_same {ε ε2 : Env} {own : List Nat} (h : wipeE ε2 own = wipeE ε own) : restE ε ε2 own = ε := by
  have l : ε2.length = ε.length := by rw [← wipeE_length ε2 own, h, wipeE_length]
  refine getq_ext fun i => ?_
  rw [restE_get l]
  by_cases hi : i ∈ own
  · rw [if_pos hi]
  · rw [if_neg hi]
    have := congrArg (fun e : Env => e[i]?) h
    simp only [wipeE_get] at this
    rw [if_neg (by rintro ⟨z, _⟩; exact hi z), if_neg (by rintro ⟨z, _⟩; exact hi z)] at this
    exact this
theorem lc_all {tg own : List Nat} {t : Env → Option (Bool × Env)} {e : Env → Option (Val × Env)} (f : Val → Val) (E0 : Env) : ∀ (xs : List Val) (ε : Env) (acc : List Val), wipeE ε own = E0 →
    (∀ x ∈ xs, ∃ ε1 ε2 ε3, tgs tg x E0 = some ε1 ∧ t ε1 = some (true, ε2) ∧ e ε2 = some (f x, ε3) ∧ wipeE ε3 own = E0) → acc.length + xs.length ≤ cap →
    ∃ ε', lcLoop tg own t e xs ε acc = some (acc ++ xs.map f, ε') ∧ wipeE ε' own = E0
  | [], ε, acc, h, _, _ => ⟨ε, by simp [lcLoop], h⟩
  | x :: xs, ε, acc, h, hx, hl => by
    obtain ⟨ε1, ε2, ε3, h1, h2, h3, h4⟩ := hx x (by simp)
    obtain ⟨ε', h5, h6⟩ := lc_all f E0 xs ε3 (acc ++ [f x]) h4 (fun y hy => hx y (by simp [hy])) (by simp at hl ⊢; omega)
    refine ⟨ε', ?_, h6⟩
    have hz : acc.length < cap := by simp at hl; omega
    unfold lcLoop
    rw [h]
    simp only [h1, h2, h3, hz, if_true, h5]
    simp
theorem ev_lcA {D : Tbl} {F : FT} {elt : E} {tg own : List Nat} {it : It} {ifs : Es} {ε ε1 : Env} {r : RV} {xs : List Val} (f : Val → Val) (hi : evI D F it ε = some (r, xs, ε1)) (hs : shut r ε1 = ε1) (hr : ∀ e, reopen r ε1 e = e) (hl : xs.length ≤ cap)
    (h : ∀ x ∈ xs, ∃ a b c, tgs tg x (wipeE ε1 own) = some a ∧ evTs D F ifs a = some (true, b) ∧ vlR (evE D F elt b) = some (f x, c) ∧ wipeE c own = wipeE ε1 own) :
    evE D F (.lc elt tg it ifs own) ε = some (.o (.lst (xs.map f)), ε1) := by
  obtain ⟨ε', h1, h2⟩ := lc_all f (wipeE ε1 own) xs ε1 [] rfl h (by simpa using hl)
  unfold evE
  rw [hi]
  simp only [hs, h1, hr, restE_same h2]
  simp
end Eng
end
section
set_option Elab.async false
set_option linter.all false
set_option maxRecDepth 100000
set_option maxHeartbeats 0

namespace Law
open PySem PySem.Spec PyProof.Rows L2 Eng
def tp (i : Nat) : Stmt := PySem.Challenge.pw_stagecue_k22_back_at_all_edges.main.body.getD i (.Pass ⟨0, 0, 0, 0⟩)
def mt (i j : Nat) : Stmt := (C8.clsBody (tp i)).getD j (.Pass ⟨0, 0, 0, 0⟩)
def fnsN : List (Str × Nat) := [(("law" : Str), 0), (("_law_round" : Str), 1), (("_law_well" : Str), 2), (("_law_aged" : Str), 3), (("_law_backs_right" : Str), 4), (("_law_cues" : Str), 5), (("_law_first_right" : Str), 6), (("_law_list" : Str), 7), (("_law_once_right" : Str), 8), (("_law_pick" : Str), 9), (("_law_rig" : Str), 10), (("_law_take" : Str), 11), (("_law_name" : Str), 12), (("_law_same" : Str), 13), (("look_of" : Str), 14), (("stage_behind" : Str), 15), (("_law_means" : Str), 16), (("_law_names" : Str), 17), (("_law_letters" : Str), 18), (("looks_of" : Str), 19), (("need_acted" : Str), 20), (("need_acts" : Str), 23), (("need_back" : Str), 24), (("need_list" : Str), 25), (("meanings" : Str), 27), (("need_cues" : Str), 28), (("need_rig" : Str), 29), (("need_channels" : Str), 30), (("need_number" : Str), 31), (("first_wrong_act" : Str), 32), (("meaning_behind" : Str), 33), (("first_wrong_cue" : Str), 34), (("first_wrong_name" : Str), 35), (("is_number" : Str), 36), (("is_act" : Str), 37), (("is_cue" : Str), 38), (("is_name" : Str), 39), (("is_whole" : Str), 40), (("has_act_size" : Str), 41), (("is_known" : Str), 42), (("are_moves" : Str), 43), (("is_cue_number" : Str), 44), (("is_follow" : Str), 45), (("is_truth" : Str), 46), (("are_letters" : Str), 47), (("is_move" : Str), 48), (("is_level" : Str), 49), (("level_of" : Str), 53), (("held_behind" : Str), 56), (("sent" : Str), 59), (("ticked" : Str), 60), (("resting" : Str), 61)]
def clssN : List (Str × Nat) := [(("CueList" : Str), 0), (("Rig" : Str), 1), (("Score" : Str), 2)]
def consN : List (Str × Val) := [(("LEAST_FOLLOW" : Str), .int 1), (("LEAST_NUMBER" : Str), .int 1), (("LEAST_TOP" : Str), .int 1), (("LETTERS" : Str), .str (Sl [97, 98, 99, 100, 101, 102, 103, 104, 105, 106, 107, 108, 109, 110, 111, 112, 113, 114, 115, 116, 117, 118, 119, 120, 121, 122])), (("LONGEST" : Str), .int 8), (("MOST_ACTS" : Str), .int 60), (("MOST_BACK" : Str), .int 5), (("MOST_CHANNELS" : Str), .int 8), (("MOST_CUES" : Str), .int 20), (("MOST_FADE" : Str), .int 5), (("MOST_FOLLOW" : Str), .int 5), (("MOST_NUMBER_acts" : Str), .int 999), (("MOST_NUMBER_cueforms" : Str), .int 999), (("MOST_TOP" : Str), .int 9), (("NEVER" : Str), .int (-1)), (("NOBODY" : Str), .tup [.tup [], .int 0]), (("PARTS" : Str), .int 5), (("SIZES" : Str), .kd 0), (("STILL" : Str), .tup [.int 0, .int 0, .int 0, .int 0]), (("WORDS" : Str), .kd 1)]
def cnL : Cn := ⟨fnsN, clssN, consN⟩
abbrev st0 : Stmt := tp 93
def N0 : List Str := [("script" : Str), ("turn" : Str)]
abbrev st1 : Stmt := tp 92
def N1 : List Str := [("well" : Str), ("turn" : Str), ("rig" : Str), ("shows" : Str), ("cues" : Str), ("back" : Str), ("gos" : Str), ("backs" : Str)]
abbrev st2 : Stmt := tp 77
def N2 : List Str := [("script" : Str), ("turn" : Str), ("own" : Str), ("stir" : Str), ("cell" : Str)]
abbrev st3 : Stmt := tp 91
def N3 : List Str := [("well" : Str), ("shows" : Str), ("acts" : Str), ("here" : Str), ("due" : Str), ("name" : Str), ("back" : Str)]
abbrev st4 : Stmt := tp 88
def N4 : List Str := [("shows" : Str), ("rig" : Str), ("cues" : Str), ("back" : Str), ("gos" : Str), ("backs" : Str), ("place" : Str), ("rest" : Str), ("turn" : Str), ("acts" : Str), ("ahead" : Str), ("told" : Str), ("goal" : Str), ("means" : Str), ("level" : Str), ("run" : Str)]
abbrev st5 : Stmt := tp 85
def N5 : List Str := [("well" : Str), ("rig" : Str), ("many" : Str), ("turn" : Str), ("found" : Str), ("number" : Str), ("share" : Str), ("moves" : Str), ("follow" : Str), ("name" : Str)]
abbrev st6 : Stmt := tp 90
def N6 : List Str := [("shows" : Str), ("rig" : Str), ("back" : Str), ("acts" : Str), ("due" : Str), ("name" : Str)]
abbrev st7 : Stmt := tp 87
def N7 : List Str := [("rig" : Str), ("cues" : Str)]
abbrev st8 : Stmt := tp 89
def N8 : List Str := [("shows" : Str), ("rig" : Str), ("cues" : Str), ("back" : Str), ("place" : Str), ("waits" : Str), ("acts" : Str), ("still" : Str), ("bare" : Str), ("calm" : Str), ("rows" : Str), ("runs" : Str), ("at" : Str), ("one" : Str), ("two" : Str), ("over" : Str), ("cue" : Str)]
abbrev st9 : Stmt := tp 79
def N9 : List Str := [("well" : Str), ("some" : Str)]
abbrev st10 : Stmt := tp 84
def N10 : List Str := [("well" : Str), ("most" : Str)]
abbrev st11 : Stmt := tp 78
def N11 : List Str := [("well" : Str), ("many" : Str), ("by" : Str), ("figure" : Str)]
abbrev st12 : Stmt := tp 82
def N12 : List Str := [("well" : Str), ("taken" : Str), ("barred" : Str), ("turn" : Str), ("lot" : Str), ("found" : Str), ("each" : Str), ("many" : Str), ("sign" : Str)]
abbrev st13 : Stmt := tp 81
def N13 : List Str := [("told" : Str), ("due" : Str), ("at" : Str)]
abbrev st14 : Stmt := tp 75
def N14 : List Str := [("cues" : Str), ("back" : Str), ("acts" : Str)]
abbrev st15 : Stmt := tp 74
def N15 : List Str := [("cues" : Str), ("back" : Str), ("acts" : Str)]
abbrev st16 : Stmt := tp 86
def N16 : List Str := [("rig" : Str), ("cues" : Str), ("place" : Str), ("found" : Str), ("name" : Str), ("cue" : Str), ("level" : Str)]
abbrev st17 : Stmt := tp 83
def N17 : List Str := [("well" : Str), ("many" : Str), ("found" : Str), ("turn" : Str)]
abbrev st18 : Stmt := tp 80
def N18 : List Str := [("well" : Str), ("many" : Str), ("turn" : Str)]
abbrev st19 : Stmt := tp 73
def N19 : List Str := [("cues" : Str), ("back" : Str), ("acts" : Str), ("score" : Str), ("stage" : Str)]
abbrev st20 : Stmt := tp 72
def N20 : List Str := [("cues" : Str), ("back" : Str), ("acts" : Str)]
abbrev st21 : Stmt := mt 58 0
def N21 : List Str := [("self" : Str), ("rig" : Str), ("cues" : Str), ("place" : Str), ("cue" : Str)]
abbrev st22 : Stmt := mt 37 0
def N22 : List Str := [("self" : Str), ("channels" : Str), ("top" : Str)]
abbrev st23 : Stmt := tp 30
def N23 : List Str := [("rig" : Str), ("acts" : Str), ("wrong" : Str)]
abbrev st24 : Stmt := tp 31
def N24 : List Str := [("value" : Str)]
abbrev st25 : Stmt := tp 59
def N25 : List Str := [("value" : Str)]
abbrev st26 : Stmt := mt 69 0
def N26 : List Str := [("self" : Str), ("cues" : Str), ("back" : Str), ("at" : Str), ("cue" : Str)]
abbrev st27 : Stmt := tp 53
def N27 : List Str := [("rig" : Str), ("cues" : Str), ("found" : Str), ("cue" : Str)]
abbrev st28 : Stmt := tp 57
def N28 : List Str := [("rig" : Str), ("cues" : Str), ("wrong" : Str)]
abbrev st29 : Stmt := tp 38
def N29 : List Str := [("value" : Str)]
abbrev st30 : Stmt := tp 36
def N30 : List Str := [("channels" : Str), ("wrong" : Str)]
abbrev st31 : Stmt := tp 21
def N31 : List Str := [("value" : Str), ("low" : Str), ("high" : Str)]
abbrev st32 : Stmt := tp 29
def N32 : List Str := [("rig" : Str), ("value" : Str), ("index" : Str), ("act" : Str)]
abbrev st33 : Stmt := tp 52
def N33 : List Str := [("rig" : Str), ("means" : Str), ("cue" : Str), ("levels" : Str), ("channel" : Str), ("level" : Str)]
abbrev st34 : Stmt := tp 56
def N34 : List Str := [("rig" : Str), ("value" : Str), ("index" : Str), ("cue" : Str)]
abbrev st35 : Stmt := tp 16
def N35 : List Str := [("values" : Str), ("index" : Str), ("value" : Str)]
abbrev st36 : Stmt := tp 19
def N36 : List Str := [("value" : Str), ("low" : Str), ("high" : Str)]
abbrev st37 : Stmt := tp 28
def N37 : List Str := [("rig" : Str), ("value" : Str)]
abbrev st38 : Stmt := tp 51
def N38 : List Str := [("rig" : Str), ("value" : Str)]
abbrev st39 : Stmt := tp 14
def N39 : List Str := [("value" : Str)]
abbrev st40 : Stmt := tp 18
def N40 : List Str := [("value" : Str)]
abbrev st41 : Stmt := tp 27
def N41 : List Str := [("value" : Str)]
abbrev st42 : Stmt := tp 15
def N42 : List Str := [("value" : Str), ("known" : Str)]
abbrev st43 : Stmt := tp 49
def N43 : List Str := [("rig" : Str), ("value" : Str), ("index" : Str), ("move" : Str)]
abbrev st44 : Stmt := tp 47
def N44 : List Str := [("value" : Str)]
abbrev st45 : Stmt := tp 50
def N45 : List Str := [("value" : Str)]
abbrev st46 : Stmt := tp 20
def N46 : List Str := [("value" : Str)]
abbrev st47 : Stmt := tp 13
def N47 : List Str := [("value" : Str), ("sign" : Str)]
abbrev st48 : Stmt := tp 48
def N48 : List Str := [("rig" : Str), ("value" : Str)]
abbrev st49 : Stmt := tp 39
def N49 : List Str := [("rig" : Str), ("value" : Str)]
abbrev st50 : Stmt := mt 69 14
def N50 : List Str := [("self" : Str), ("stage" : Str), ("held" : Str), ("channel" : Str), ("level" : Str), ("run" : Str)]
abbrev st51 : Stmt := mt 69 1
def N51 : List Str := [("self" : Str), ("cue" : Str), ("moved" : Str), ("channel" : Str), ("level" : Str), ("at" : Str)]
abbrev st52 : Stmt := mt 69 13
def N52 : List Str := [("self" : Str), ("acts" : Str), ("found" : Str), ("act" : Str)]
abbrev st53 : Stmt := tp 63
def N53 : List Str := [("run" : Str), ("begin" : Str), ("end" : Str), ("age" : Str), ("long" : Str)]
abbrev st54 : Stmt := mt 69 11
def N54 : List Str := [("self" : Str), ("stage" : Str), ("act" : Str), ("runs" : Str), ("place" : Str), ("due" : Str), ("held" : Str), ("sending" : Str), ("at" : Str), ("run" : Str)]
abbrev st55 : Stmt := mt 69 10
def N55 : List Str := [("self" : Str)]
abbrev st56 : Stmt := tp 70
def N56 : List Str := [("held" : Str), ("act" : Str), ("table" : Str), ("channel" : Str), ("level" : Str)]
abbrev st57 : Stmt := mt 69 7
def N57 : List Str := [("self" : Str), ("place" : Str), ("due" : Str), ("act" : Str), ("word" : Str)]
abbrev st58 : Stmt := mt 69 8
def N58 : List Str := [("self" : Str), ("at" : Str), ("run" : Str), ("act" : Str), ("place" : Str), ("sending" : Str), ("here" : Str), ("whom" : Str), ("long" : Str)]
abbrev st59 : Stmt := tp 65
def N59 : List Str := [("run" : Str), ("level" : Str), ("long" : Str), ("here" : Str)]
abbrev st60 : Stmt := tp 64
def N60 : List Str := [("run" : Str), ("begin" : Str), ("end" : Str), ("age" : Str), ("long" : Str)]
abbrev st61 : Stmt := tp 62
def N61 : List Str := [("level" : Str)]
abbrev st62 : Stmt := mt 69 5
def N62 : List Str := [("self" : Str), ("place" : Str), ("due" : Str), ("number" : Str), ("goal" : Str)]
abbrev st63 : Stmt := mt 69 6
def N63 : List Str := [("self" : Str), ("place" : Str), ("due" : Str)]
abbrev st64 : Stmt := mt 69 4
def N64 : List Str := [("self" : Str), ("place" : Str)]
abbrev st65 : Stmt := mt 69 3
def N65 : List Str := [("self" : Str), ("place" : Str), ("follow" : Str)]
abbrev i_law : Nat := 0
abbrev i__law_round : Nat := 1
abbrev i__law_well : Nat := 2
abbrev i__law_aged : Nat := 3
abbrev i__law_backs_right : Nat := 4
abbrev i__law_cues : Nat := 5
abbrev i__law_first_right : Nat := 6
abbrev i__law_list : Nat := 7
abbrev i__law_once_right : Nat := 8
abbrev i__law_pick : Nat := 9
abbrev i__law_rig : Nat := 10
abbrev i__law_take : Nat := 11
abbrev i__law_name : Nat := 12
abbrev i__law_same : Nat := 13
abbrev i_look_of : Nat := 14
abbrev i_stage_behind : Nat := 15
abbrev i__law_means : Nat := 16
abbrev i__law_names : Nat := 17
abbrev i__law_letters : Nat := 18
abbrev i_looks_of : Nat := 19
abbrev i_need_acted : Nat := 20
abbrev i_CueList___init__ : Nat := 21
abbrev i_Rig___init__ : Nat := 22
abbrev i_need_acts : Nat := 23
abbrev i_need_back : Nat := 24
abbrev i_need_list : Nat := 25
abbrev i_Score___init__ : Nat := 26
abbrev i_meanings : Nat := 27
abbrev i_need_cues : Nat := 28
abbrev i_need_rig : Nat := 29
abbrev i_need_channels : Nat := 30
abbrev i_need_number : Nat := 31
abbrev i_first_wrong_act : Nat := 32
abbrev i_meaning_behind : Nat := 33
abbrev i_first_wrong_cue : Nat := 34
abbrev i_first_wrong_name : Nat := 35
abbrev i_is_number : Nat := 36
abbrev i_is_act : Nat := 37
abbrev i_is_cue : Nat := 38
abbrev i_is_name : Nat := 39
abbrev i_is_whole : Nat := 40
abbrev i_has_act_size : Nat := 41
abbrev i_is_known : Nat := 42
abbrev i_are_moves : Nat := 43
abbrev i_is_cue_number : Nat := 44
abbrev i_is_follow : Nat := 45
abbrev i_is_truth : Nat := 46
abbrev i_are_letters : Nat := 47
abbrev i_is_move : Nat := 48
abbrev i_is_level : Nat := 49
abbrev i_Score_look : Nat := 50
abbrev i_Score_senders_of : Nat := 51
abbrev i_Score_stages : Nat := 52
abbrev i_level_of : Nat := 53
abbrev i_Score_behind : Nat := 54
abbrev i_Score_first : Nat := 55
abbrev i_held_behind : Nat := 56
abbrev i_Score_moved : Nat := 57
abbrev i_Score_run_behind : Nat := 58
abbrev i_sent : Nat := 59
abbrev i_ticked : Nat := 60
abbrev i_resting : Nat := 61
abbrev i_Score_jumping : Nat := 62
abbrev i_Score_passing : Nat := 63
abbrev i_Score_starting : Nat := 64
abbrev i_Score_follow_of : Nat := 65
def B_law : Ss := (.cons (.ret (.blt 9 (.cons (.lc (.call i__law_round (.cons (.call i__law_well (.cons (.var 0) (.cons (.var 1) .nil))) .nil)) [1] (.rng1 (.blt 6 (.cons (.lit (.int 2)) (.cons (.blt 7 (.cons (.blt 0 (.cons (.var 0) .nil)) (.cons (.lit (.int 3)) .nil))) .nil)))) .nil [1]) .nil))) .nil)
abbrev b0 : Ss := B_law
def B__law_round : Ss := (.cons (.for_ [1] (.rng1 (.lit (.int 3))) (.cons (.asg 2 (.call i__law_rig (.cons (.var 0) (.cons (.lit (.int 3)) .nil)))) (.cons (.par [4, 5] (.cons (.call i__law_cues (.cons (.var 0) (.cons (.var 2) (.cons (.bin .Add (.lit (.int 1)) (.call i__law_take (.cons (.var 0) (.cons (.lit (.int 5)) .nil)))) .nil)))) (.cons (.call i__law_pick (.cons (.var 0) (.cons (.lst (.cons (.lit (.int 0)) (.cons (.lit (.int 5)) (.cons (.lit (.int 1)) (.cons (.call i__law_take (.cons (.var 0) (.cons (.lit (.int 6)) .nil))) .nil))))) .nil))) .nil))) (.cons (.asg 3 (.call i__law_list (.cons (.var 2) (.cons (.var 4) .nil)))) (.cons (.for_ [6, 7] (.seq (.lst (.cons (.tup (.cons (.blt 0 (.cons (.var 4) .nil)) (.cons (.lit (.int 1)) .nil))) (.cons (.tup (.cons (.call i__law_take (.cons (.var 0) (.cons (.lit (.int 7)) .nil))) (.cons (.call i__law_take (.cons (.var 0) (.cons (.lit (.int 7)) .nil))) .nil))) (.cons (.tup (.cons (.bin .Add (.blt 0 (.cons (.var 4) .nil)) (.lit (.int 1))) (.cons (.bin .Add (.blt 0 (.cons (.var 4) .nil)) (.lit (.int 1))) .nil))) (.cons (.tup (.cons (.lit (.int 1)) (.cons (.lit (.int 2)) .nil))) .nil)))))) (.cons (.ife (.not (.call i__law_backs_right (.cons (.var 3) (.cons (.var 2) (.cons (.var 4) (.cons (.var 5) (.cons (.var 6) (.cons (.var 7) .nil)))))))) (.cons (.ret (.lit (.bl false))) .nil) .nil) .nil)) (.cons (.ife (.or2 (.not (.call i__law_once_right (.cons (.var 3) (.cons (.var 2) (.cons (.var 4) (.cons (.var 5) (.cons (.call i__law_take (.cons (.var 0) (.cons (.blt 0 (.cons (.var 4) .nil)) .nil))) (.cons (.call i__law_take (.cons (.var 0) (.cons (.lit (.int 6)) .nil))) .nil)))))))) (.not (.call i__law_first_right (.cons (.var 3) (.cons (.var 2) (.cons (.var 5) .nil)))))) (.cons (.ret (.lit (.bl false))) .nil) .nil) .nil)))))) (.cons (.ret (.call i__law_aged (.cons (.var 0) .nil))) .nil))
abbrev b1 : Ss := B__law_round
def B__law_well : Ss := (.cons (.asg 2 (.ife (.cmp .Lt (.var 1) (.blt 0 (.cons (.var 0) .nil))) (.blt 3 (.cons (.ix (.var 0) (.var 1)) .nil)) (.bin .Add (.bin .Add (.bin .Mult (.lit (.int 9311)) (.var 1)) (.bin .Mod (.blt 3 (.cons (.blt 8 (.cons (.slc (.var 0) .no (.so (.lit (.int 2)))) .nil)) .nil)) (.lit (.int 1000003)))) (.lit (.int 71))))) (.cons (.asg 3 (.bin .Add (.lit (.int 50021)) (.bin .Mult (.lit (.int 1013)) (.var 1)))) (.cons (.for_ [4] (.seq (.bin .Add (.slc (.var 0) .no (.so (.lit (.int 5)))) (.lst (.cons (.var 2) .nil)))) (.cons (.asg 3 (.bin .Mod (.blt 3 (.cons (.bin .Add (.bin .Add (.bin .Mult (.var 3) (.lit (.int 45013))) (.bin .Mod (.blt 3 (.cons (.var 4) .nil)) (.lit (.int 2147483399)))) (.lit (.int 37))) .nil)) (.lit (.int 2147483563)))) .nil)) (.cons (.ret (.lst (.cons (.ife (.or2 (.cmp .Lt (.var 2) (.lit (.int 0))) (.cmp .GtE (.var 2) (.bin .Pow (.lit (.int 10)) (.lit (.int 17))))) (.blt 4 (.cons (.var 2) .nil)) (.lit (.int 0))) (.cons (.var 3) (.cons (.lit (.int 0)) .nil))))) .nil))))
abbrev b2 : Ss := B__law_well
def B__law_aged : Ss := (.cons (.par [5, 6] (.cons (.call i__law_name (.cons (.var 0) (.cons (.lst .nil) .nil))) (.cons (.bin .Add (.lit (.int 2)) (.call i__law_take (.cons (.var 0) (.cons (.lit (.int 4)) .nil)))) .nil))) (.cons (.asg 1 (.call i__law_list (.cons (.tup (.cons (.tup (.cons (.var 5) .nil)) (.cons (.lit (.int 9)) .nil))) (.cons (.tup (.cons (.tup (.cons (.lit (.int 4)) (.cons (.tup (.cons (.tup (.cons (.var 5) (.cons (.lit (.int 9)) .nil))) .nil)) (.cons (.lit (.int 3)) (.cons (.lit .non) (.cons (.lit (.bl true)) .nil)))))) .nil)) .nil)))) (.cons (.asg 2 (.tup (.cons (.tup (.cons (.lit (.str (Sl [103, 111]))) .nil)) (.cons (.tup (.cons (.lit (.str (Sl [119, 97, 105, 116]))) .nil)) (.cons (.tup (.cons (.lit (.str (Sl [98, 97, 99, 107]))) .nil)) (.cons (.tup (.cons (.lit (.str (Sl [119, 97, 105, 116]))) .nil)) (.cons (.tup (.cons (.lit (.str (Sl [98, 97, 99, 107]))) .nil)) (.cons (.tup (.cons (.lit (.str (Sl [106, 117, 109, 112]))) (.cons (.lit (.int 5)) .nil))) (.cons (.tup (.cons (.lit (.str (Sl [98, 97, 99, 107]))) .nil)) .nil))))))))) (.cons (.ife (.not (.call i__law_same (.cons (.call i_stage_behind (.cons (.var 1) (.cons (.var 6) (.cons (.var 2) .nil)))) (.cons (.tup (.cons (.tup (.cons (.tup (.cons (.lit (.int 3)) (.cons (.lit (.int 0)) (.cons (.lit (.int 1)) (.cons (.var 6) .nil))))) .nil)) (.cons (.neg (.lit (.int 1))) (.cons (.neg (.lit (.int 1))) (.cons (.tup .nil) .nil))))) .nil)))) (.cons (.ret (.lit (.bl false))) .nil) .nil) (.cons (.asg 3 (.bin .Sub (.lit (.int 3)) (.blt 3 (.cons (.bin .FloorDiv (.bin .Sub (.bin .Add (.lit (.int 3)) (.var 6)) (.lit (.int 1))) (.var 6)) .nil)))) (.cons (.asg 4 (.tup (.cons (.tup (.cons (.tup (.cons (.var 3) (.cons (.lit (.int 9)) (.cons (.lit (.int 0)) (.cons (.lit (.int 3)) .nil))))) .nil)) (.cons (.lit (.int 0)) (.cons (.neg (.lit (.int 1))) (.cons (.tup .nil) .nil)))))) (.cons (.ret (.call i__law_same (.cons (.tup (.cons (.call i_stage_behind (.cons (.var 1) (.cons (.var 6) (.cons (.bin .Add (.var 2) (.tup (.cons (.tup (.cons (.lit (.str (Sl [103, 111]))) .nil)) .nil))) .nil)))) (.cons (.call i_look_of (.cons (.var 1) (.cons (.var 6) (.cons (.var 2) .nil)))) .nil))) (.cons (.tup (.cons (.var 4) (.cons (.tup (.cons (.var 3) .nil)) .nil))) .nil)))) .nil)))))))
abbrev b3 : Ss := B__law_aged
def B__law_backs_right : Ss := (.cons (.asg 6 (.bin .Sub (.blt 7 (.cons (.var 4) (.cons (.blt 0 (.cons (.var 2) .nil)) .nil))) (.lit (.int 1)))) (.cons (.asg 7 (.bin .Mult (.tup (.cons (.tup (.cons (.lit (.str (Sl [119, 97, 105, 116]))) .nil)) .nil)) (.lit (.int 5)))) (.cons (.for_ [8] (.rng1 (.blt 7 (.cons (.var 4) (.cons (.blt 0 (.cons (.var 2) .nil)) .nil)))) (.cons (.ife (.cmp .IsNot (.ix (.ix (.var 2) (.var 8)) (.lit (.int 3))) (.lit .non)) (.cons (.asg 7 (.tup .nil)) .nil) .nil) .nil)) (.cons (.asg 9 (.bin .Add (.bin .Mult (.tup (.cons (.tup (.cons (.lit (.str (Sl [103, 111]))) .nil)) .nil)) (.var 4)) (.var 7))) (.cons (.asg 10 (.call i_stage_behind (.cons (.var 0) (.cons (.var 3) (.cons (.var 9) .nil))))) (.cons (.asg 11 (.call i_stage_behind (.cons (.var 0) (.cons (.var 3) (.cons (.bin .Add (.var 9) (.bin .Mult (.tup (.cons (.tup (.cons (.lit (.str (Sl [98, 97, 99, 107]))) .nil)) .nil)) (.var 5))) .nil))))) (.cons (.asg 12 (.blt 6 (.cons (.neg (.lit (.int 1))) (.cons (.bin .Sub (.var 6) (.var 5)) .nil)))) (.cons (.asg 13 (.call i__law_means (.cons (.var 1) (.cons (.var 2) (.cons (.var 12) .nil))))) (.cons (.ife (.not (.call i__law_same (.cons (.tup (.cons (.slc (.var 11) (.so (.lit (.int 1))) (.so (.lit (.int 3)))) (.cons (.blt 1 (.cons (.lc (.ix (.var 15) (.lit (.int 1))) [15] (.seq (.ix (.var 11) (.lit (.int 0)))) .nil [15]) .nil)) .nil))) (.cons (.tup (.cons (.ife (.and2 (.cmp .Gt (.var 5) (.lit (.int 0))) (.and2 (.cmp .Gt (.var 4) (.lit (.int 0))) (.cmp .NotEq (.var 2) (.tup .nil)))) (.tup (.cons (.var 12) (.cons (.neg (.lit (.int 1))) .nil))) (.slc (.var 10) (.so (.lit (.int 1))) (.so (.lit (.int 3))))) (.cons (.ife (.cmp .Gt (.var 5) (.lit (.int 0))) (.var 13) (.call i__law_means (.cons (.var 1) (.cons (.var 2) (.cons (.var 6) .nil))))) .nil))) .nil)))) (.cons (.ret (.lit (.bl false))) .nil) .nil) (.cons (.ife (.and2 (.cmp .Eq (.var 3) (.lit (.int 0))) (.and2 (.cmp .Gt (.var 5) (.lit (.int 0))) (.and2 (.cmp .NotEq (.var 7) (.tup .nil)) (.not (.call i__law_same (.cons (.call i_look_of (.cons (.var 0) (.cons (.lit (.int 0)) (.cons (.bin .Add (.var 9) (.bin .Mult (.tup (.cons (.tup (.cons (.lit (.str (Sl [98, 97, 99, 107]))) .nil)) .nil)) (.var 5))) .nil)))) (.cons (.var 13) .nil))))))) (.cons (.ret (.lit (.bl false))) .nil) .nil) (.cons (.ret (.or2 (.call i__law_same (.cons (.ix (.call i_stage_behind (.cons (.var 0) (.cons (.var 3) (.cons (.bin .Add (.bin .Add (.var 9) (.bin .Mult (.tup (.cons (.tup (.cons (.lit (.str (Sl [98, 97, 99, 107]))) .nil)) .nil)) (.var 5))) (.bin .Mult (.tup (.cons (.tup (.cons (.lit (.str (Sl [119, 97, 105, 116]))) .nil)) .nil)) (.lit (.int 5)))) .nil)))) (.lit (.int 0))) (.cons (.blt 1 (.cons (.lc (.tup (.cons (.var 14) (.cons (.var 14) (.cons (.lit (.int 0)) (.cons (.lit (.int 0)) .nil))))) [14] (.seq (.var 13)) .nil [14]) .nil)) .nil))) (.cmp .Eq (.var 5) (.lit (.int 0))))) .nil)))))))))))
abbrev b4 : Ss := B__law_backs_right
def B__law_cues : Ss := (.cons (.par [4, 5] (.cons (.lst .nil) (.cons (.lit (.int 0)) .nil))) (.cons (.for_ [3] (.rng1 (.var 2)) (.cons (.asg 5 (.bin .Add (.bin .Add (.var 5) (.lit (.int 1))) (.call i__law_pick (.cons (.var 0) (.cons (.lst (.cons (.lit (.int 0)) (.cons (.lit (.int 0)) (.cons (.lit (.int 9)) (.cons (.call i__law_take (.cons (.var 0) (.cons (.lit (.int 40)) .nil))) .nil))))) .nil))))) (.cons (.asg 6 (.call i__law_pick (.cons (.var 0) (.cons (.lst (.cons (.lit (.int 1)) (.cons (.lit (.int 2)) (.cons (.lit (.int 3)) .nil)))) .nil)))) (.cons (.asg 7 (.blt 1 (.cons (.lc (.tup (.cons (.var 9) (.cons (.call i__law_pick (.cons (.var 0) (.cons (.lst (.cons (.lit (.int 0)) (.cons (.ix (.var 1) (.lit (.int 1))) (.cons (.call i__law_take (.cons (.var 0) (.cons (.bin .Add (.ix (.var 1) (.lit (.int 1))) (.lit (.int 1))) .nil))) .nil)))) .nil))) .nil))) [9] (.seq (.ix (.var 1) (.lit (.int 0)))) (.cons (.cmp .Eq (.call i__law_take (.cons (.var 0) (.cons (.var 6) .nil))) (.lit (.int 0))) .nil) [9]) .nil))) (.cons (.asg 8 (.ife (.cmp .Eq (.call i__law_take (.cons (.var 0) (.cons (.lit (.int 3)) .nil))) (.lit (.int 0))) (.bin .Add (.lit (.int 1)) (.call i__law_take (.cons (.var 0) (.cons (.lit (.int 5)) .nil)))) (.lit .non))) (.cons (.app 4 (.tup (.cons (.var 5) (.cons (.var 7) (.cons (.call i__law_pick (.cons (.var 0) (.cons (.lst (.cons (.lit (.int 0)) (.cons (.lit (.int 1)) (.cons (.lit (.int 5)) (.cons (.call i__law_take (.cons (.var 0) (.cons (.lit (.int 6)) .nil))) .nil))))) .nil))) (.cons (.var 8) (.cons (.cmp .Eq (.call i__law_take (.cons (.var 0) (.cons (.lit (.int 4)) .nil))) (.lit (.int 0))) .nil))))))) .nil)))))) (.cons (.ret (.blt 1 (.cons (.var 4) .nil))) .nil)))
abbrev b5 : Ss := B__law_cues
def B__law_first_right : Ss := (.cons (.asg 3 (.tup (.cons (.tup (.cons (.lit (.str (Sl [98, 97, 99, 107]))) .nil)) (.cons (.tup (.cons (.lit (.str (Sl [104, 111, 108, 100]))) (.cons (.ix (.ix (.var 1) (.lit (.int 0))) (.lit (.int 0))) (.cons (.lit (.int 1)) .nil)))) (.cons (.tup (.cons (.lit (.str (Sl [98, 97, 99, 107]))) .nil)) .nil))))) (.cons (.asg 4 (.tup (.cons (.blt 1 (.cons (.lc (.tup (.cons (.lit (.int 0)) (.cons (.lit (.int 0)) (.cons (.lit (.int 0)) (.cons (.lit (.int 0)) .nil))))) [5] (.seq (.ix (.var 1) (.lit (.int 0)))) .nil [5]) .nil)) (.cons (.neg (.lit (.int 1))) (.cons (.neg (.lit (.int 1))) (.cons (.tup (.cons (.tup (.cons (.ix (.ix (.var 1) (.lit (.int 0))) (.lit (.int 0))) (.cons (.lit (.int 1)) .nil))) .nil)) .nil)))))) (.cons (.ret (.call i__law_same (.cons (.tup (.cons (.call i_stage_behind (.cons (.var 0) (.cons (.var 2) (.cons (.var 3) .nil)))) (.cons (.call i_stage_behind (.cons (.var 0) (.cons (.var 2) (.cons (.bin .Add (.var 3) (.tup (.cons (.tup (.cons (.lit (.str (Sl [119, 97, 105, 116]))) .nil)) (.cons (.tup (.cons (.lit (.str (Sl [98, 97, 99, 107]))) .nil)) .nil)))) .nil)))) .nil))) (.cons (.tup (.cons (.var 4) (.cons (.var 4) .nil))) .nil)))) .nil)))
abbrev b6 : Ss := B__law_first_right
def B__law_list : Ss := (.cons (.ret (.make 0 (.cons (.make 1 (.cons (.ix (.var 0) (.lit (.int 0))) (.cons (.ix (.var 0) (.lit (.int 1))) .nil))) (.cons (.var 1) .nil)))) .nil)
abbrev b7 : Ss := B__law_list
def B__law_once_right : Ss := (.cons (.asg 6 (.bin .Add (.bin .Add (.tup (.cons (.tup (.cons (.lit (.str (Sl [106, 117, 109, 112]))) (.cons (.ix (.ix (.var 2) (.var 4)) (.lit (.int 0))) .nil))) (.cons (.tup (.cons (.lit (.str (Sl [98, 97, 99, 107]))) .nil)) .nil))) (.tup (.cons (.tup (.cons (.lit (.str (Sl [103, 111]))) .nil)) .nil))) (.tup (.cons (.tup (.cons (.lit (.str (Sl [98, 97, 99, 107]))) .nil)) .nil)))) (.cons (.asg 7 (.bin .Add (.tup (.cons (.tup (.cons (.lit (.str (Sl [106, 117, 109, 112]))) (.cons (.ix (.ix (.var 2) (.var 4)) (.lit (.int 0))) .nil))) .nil)) (.tup (.cons (.tup (.cons (.lit (.str (Sl [104, 111, 108, 100]))) (.cons (.ix (.ix (.var 1) (.lit (.int 0))) (.lit (.int 0))) (.cons (.lit (.int 1)) .nil)))) (.cons (.tup (.cons (.lit (.str (Sl [102, 114, 101, 101]))) (.cons (.ix (.ix (.var 1) (.lit (.int 0))) (.lit (.int 0))) .nil))) .nil))))) (.cons (.par [13, 14] (.cons (.call i__law_means (.cons (.var 1) (.cons (.var 2) (.cons (.var 4) .nil)))) (.cons (.call i__law_means (.cons (.var 1) (.cons (.var 2) (.cons (.bin .Sub (.var 4) (.lit (.int 1))) .nil)))) .nil))) (.cons (.asg 8 (.blt 1 (.cons (.lc (.bin .Add (.bin .Add (.slc (.var 16) .no (.so (.lit (.int 3)))) (.tup (.cons (.lit .non) .nil))) (.slc (.var 16) (.so (.lit (.int 4))) .no)) [16] (.seq (.var 2)) .nil [16]) .nil))) (.cons (.asg 9 (.call i__law_list (.cons (.var 1) (.cons (.var 8) .nil)))) (.cons (.asg 10 (.bin .Add (.bin .Add (.bin .Add (.var 7) (.bin .Mult (.tup (.cons (.tup (.cons (.lit (.str (Sl [119, 97, 105, 116]))) .nil)) .nil)) (.lit (.int 5)))) (.tup (.cons (.tup (.cons (.lit (.str (Sl [98, 97, 99, 107]))) .nil)) .nil))) (.bin .Mult (.tup (.cons (.tup (.cons (.lit (.str (Sl [119, 97, 105, 116]))) .nil)) .nil)) (.var 5)))) (.cons (.asg 11 (.lst .nil)) (.cons (.for_ [12] (.rng1 (.blt 0 (.cons (.ix (.var 1) (.lit (.int 0))) .nil))) (.cons (.asg 15 (.or2 (.cmp .GtE (.var 5) (.var 3)) (.cmp .Eq (.ix (.var 13) (.var 12)) (.ix (.var 14) (.var 12))))) (.cons (.app 11 (.ife (.var 15) (.tup (.cons (.ix (.var 14) (.var 12)) (.cons (.ix (.var 14) (.var 12)) (.cons (.lit (.int 0)) (.cons (.lit (.int 0)) .nil))))) (.tup (.cons (.ix (.var 13) (.var 12)) (.cons (.ix (.var 14) (.var 12)) (.cons (.var 5) (.cons (.var 3) .nil))))))) .nil))) (.cons (.ife (.not (.call i__law_same (.cons (.call i_stage_behind (.cons (.var 9) (.cons (.var 3) (.cons (.var 10) .nil)))) (.cons (.tup (.cons (.blt 1 (.cons (.var 11) .nil)) (.cons (.bin .Sub (.var 4) (.lit (.int 1))) (.cons (.neg (.lit (.int 1))) (.cons (.tup .nil) .nil))))) .nil)))) (.cons (.ret (.lit (.bl false))) .nil) .nil) (.cons (.ret (.call i__law_same (.cons (.ix (.call i_stage_behind (.cons (.var 0) (.cons (.var 3) (.cons (.var 6) .nil)))) (.lit (.int 1))) (.cons (.bin .Sub (.var 4) (.lit (.int 1))) .nil)))) .nil))))))))))
abbrev b8 : Ss := B__law_once_right
def B__law_pick : Ss := (.cons (.ret (.ix (.var 1) (.call i__law_take (.cons (.var 0) (.cons (.blt 0 (.cons (.var 1) .nil)) .nil))))) .nil)
abbrev b9 : Ss := B__law_pick
def B__law_rig : Ss := (.cons (.ret (.tup (.cons (.blt 1 (.cons (.call i__law_names (.cons (.var 0) (.cons (.bin .Add (.lit (.int 1)) (.call i__law_take (.cons (.var 0) (.cons (.var 1) .nil)))) .nil))) .nil)) (.cons (.call i__law_pick (.cons (.var 0) (.cons (.lst (.cons (.lit (.int 9)) (.cons (.lit (.int 4)) (.cons (.lit (.int 1)) (.cons (.lit (.int 2)) (.cons (.bin .Add (.lit (.int 1)) (.call i__law_take (.cons (.var 0) (.cons (.lit (.int 9)) .nil)))) .nil)))))) .nil))) .nil)))) .nil)
abbrev b10 : Ss := B__law_rig
def B__law_take : Ss := (.cons (.ife (.cmp .Gt (.ix (.var 0) (.lit (.int 0))) (.lit (.int 0))) (.cons (.asgT [.sub (.var 0) (.lit (.int 0)), .nm 3] (.blt 5 (.cons (.ix (.var 0) (.lit (.int 0))) (.cons (.var 1) .nil)))) (.cons (.ret (.var 3)) .nil)) .nil) (.cons (.subS (.var 0) (.lit (.int 2)) (.bin .Add (.ix (.var 0) (.lit (.int 2))) (.lit (.int 1)))) (.cons (.asg 2 (.bin .Add (.bin .Mod (.blt 3 (.cons (.ix (.var 0) (.lit (.int 1))) .nil)) (.lit (.int 28657))) (.lit (.int 40009)))) (.cons (.subS (.var 0) (.lit (.int 1)) (.bin .Mod (.blt 3 (.cons (.bin .Add (.bin .Add (.bin .Mult (.ix (.var 0) (.lit (.int 1))) (.var 2)) (.bin .Mult (.lit (.int 50023)) (.ix (.var 0) (.lit (.int 2))))) (.lit (.int 17))) .nil)) (.lit (.int 2147483563)))) (.cons (.ret (.bin .Mod (.blt 3 (.cons (.bin .FloorDiv (.ix (.var 0) (.lit (.int 1))) (.lit (.int 83))) .nil)) (.var 1))) .nil)))))
abbrev b11 : Ss := B__law_take
def B__law_name : Ss := (.cons (.asg 2 (.lst (.cons (.lit (.str (Sl [97, 108, 108]))) (.cons (.lit (.str (Sl [98, 97, 99, 107]))) (.cons (.lit (.str (Sl [98, 108, 97, 99, 107]))) (.cons (.lit (.str (Sl [99, 117, 101]))) (.cons (.lit (.str (Sl [99, 117, 116]))) (.cons (.lit (.str (Sl [100, 114, 111, 112]))) (.cons (.lit (.str (Sl [101, 100, 105, 116]))) (.cons (.lit (.str (Sl [102, 97, 100, 101]))) (.cons (.lit (.str (Sl [102, 114, 101, 101]))) (.cons (.lit (.str (Sl [103, 111]))) (.cons (.lit (.str (Sl [104, 111, 108, 100]))) (.cons (.lit (.str (Sl [105, 110]))) (.cons (.lit (.str (Sl [106, 117, 109, 112]))) (.cons (.lit (.str (Sl [110, 111]))) (.cons (.lit (.str (Sl [110, 111, 110, 101]))) (.cons (.lit (.str (Sl [110, 111, 119]))) (.cons (.lit (.str (Sl [112, 117, 116]))) (.cons (.lit (.str (Sl [115, 110, 97, 112]))) .nil)))))))))))))))))))) (.cons (.asg 2 (.bin .Add (.var 2) (.lst (.cons (.lit (.str (Sl [116, 111]))) (.cons (.lit (.str (Sl [117, 110, 100, 111]))) (.cons (.lit (.str (Sl [119, 97, 105, 116]))) (.cons (.lit (.str (Sl [121, 101, 115]))) (.cons (.lit (.str (Sl [102, 111, 108, 108, 111, 119]))) (.cons (.lit (.str (Sl [119, 104, 111, 108, 101]))) .nil))))))))) (.cons (.for_ [3] (.rng1 (.lit (.int 5))) (.cons (.asg 4 (.call i__law_take (.cons (.var 0) (.cons (.lit (.int 6)) .nil)))) (.cons (.asg 5 (.call i__law_letters (.cons (.var 0) (.cons (.ix (.lst (.cons (.lit (.int 1)) (.cons (.lit (.int 1)) (.cons (.lit (.int 2)) (.cons (.lit (.int 4)) (.cons (.lit (.int 8)) (.cons (.lit (.int 3)) .nil))))))) (.var 4)) .nil)))) (.cons (.ife (.cmp .Eq (.var 4) (.lit (.int 5))) (.cons (.asg 5 (.call i__law_pick (.cons (.var 0) (.cons (.lst (.cons (.lit (.str (Sl [108, 97, 109, 112]))) (.cons (.lit (.str (Sl [115, 111, 110, 103]))) (.cons (.lit (.str (Sl [119, 105, 110, 103]))) (.cons (.lit (.str (Sl [99, 104, 97, 110, 110, 101, 108, 115]))) (.cons (.lit (.str (Sl [116, 111, 112]))) (.cons (.lit (.str (Sl [112, 108, 97, 99, 101]))) (.cons (.lit (.str (Sl [108, 101, 118, 101, 108]))) (.cons (.lit (.str (Sl [97]))) (.cons (.lit (.str (Sl [122]))) (.cons (.lit (.str (Sl [115, 116, 97, 108, 101]))) (.cons (.lit (.str (Sl [109, 97, 105, 110]))) .nil)))))))))))) .nil)))) .nil) .nil) (.cons (.ife (.and2 (.cmp .NotIn (.var 5) (.var 1)) (.cmp .NotIn (.var 5) (.var 2))) (.cons (.ret (.var 5)) .nil) .nil) .nil))))) (.cons (.ret (.ix (.lc (.var 6) [6] (.seq (.bin .Add (.lc (.bin .Mult (.lit (.str (Sl [113]))) (.var 7)) [7] (.rng2 (.lit (.int 1)) (.lit (.int 9))) .nil [7]) (.lc (.bin .Add (.bin .Add (.lit (.str (Sl [103]))) (.var 8)) (.lit (.str (Sl [104])))) [8] (.seq (.lit (.str (Sl [97, 98, 99, 100, 101, 102, 103, 104, 105, 106, 107, 108, 109, 110, 111, 112, 113, 114, 115, 116, 117, 118, 119, 120, 121, 122])))) .nil [8]))) (.cons (.cmp .NotIn (.var 6) (.var 1)) .nil) [6]) (.lit (.int 0)))) .nil))))
abbrev b12 : Ss := B__law_name
def B__law_same : Ss := (.cons (.ife (.isB (.var 1) 3) (.cons (.ife (.or2 (.not (.isB (.var 0) 3)) (.cmp .NotEq (.blt 0 (.cons (.var 0) .nil)) (.blt 0 (.cons (.var 1) .nil)))) (.cons (.ret (.lit (.bl false))) .nil) .nil) (.cons (.ret (.blt 9 (.cons (.lc (.call i__law_same (.cons (.ix (.var 0) (.var 2)) (.cons (.ix (.var 1) (.var 2)) .nil))) [2] (.rng1 (.blt 0 (.cons (.var 1) .nil))) .nil [2]) .nil))) .nil)) .nil) (.cons (.ife (.or2 (.cmp .Is (.var 1) (.lit .non)) (.or2 (.cmp .Is (.var 1) (.lit (.bl true))) (.cmp .Is (.var 1) (.lit (.bl false))))) (.cons (.ret (.or2 (.and2 (.cmp .Is (.var 1) (.lit .non)) (.cmp .Is (.var 0) (.lit .non))) (.or2 (.and2 (.cmp .Is (.var 1) (.lit (.bl true))) (.cmp .Is (.var 0) (.lit (.bl true)))) (.and2 (.cmp .Is (.var 1) (.lit (.bl false))) (.cmp .Is (.var 0) (.lit (.bl false))))))) .nil) .nil) (.cons (.ife (.isB (.var 1) 0) (.cons (.ret (.and2 (.isB (.var 0) 0) (.and2 (.not (.isB (.var 0) 1)) (.cmp .Eq (.var 0) (.var 1))))) .nil) .nil) (.cons (.ret (.and2 (.isB (.var 0) 2) (.cmp .Eq (.var 0) (.var 1)))) .nil))))
abbrev b13 : Ss := B__law_same
def B_look_of : Ss := (.cons (.exp (.call i_need_acted (.cons (.var 0) (.cons (.var 1) (.cons (.var 2) .nil))))) (.cons (.ret (.ix (.call i_looks_of (.cons (.var 0) (.cons (.var 1) (.cons (.var 2) .nil)))) (.neg (.lit (.int 1))))) .nil))
abbrev b14 : Ss := B_look_of
def B_stage_behind : Ss := (.cons (.exp (.call i_need_acted (.cons (.var 0) (.cons (.var 1) (.cons (.var 2) .nil))))) (.cons (.ret (.ix (.meth (Sl [115, 116, 97, 103, 101, 115]) (.make 2 (.cons (.var 0) (.cons (.var 1) .nil))) (.cons (.var 2) .nil)) (.neg (.lit (.int 1))))) .nil))
abbrev b15 : Ss := B_stage_behind
def B__law_means : Ss := (.cons (.asg 3 (.dsp .nil)) (.cons (.for_ [4] (.seq (.ix (.var 0) (.lit (.int 0)))) (.cons (.subS (.var 3) (.var 4) (.lit (.int 0))) .nil)) (.cons (.for_ [5] (.seq (.slc (.var 1) .no (.so (.bin .Add (.var 2) (.lit (.int 1)))))) (.cons (.for_ [4, 6] (.seq (.ix (.var 5) (.lit (.int 1)))) (.cons (.subS (.var 3) (.var 4) (.var 6)) .nil)) .nil)) (.cons (.ret (.blt 1 (.cons (.lc (.ix (.var 3) (.var 4)) [4] (.seq (.ix (.var 0) (.lit (.int 0)))) .nil [4]) .nil))) .nil))))
abbrev b16 : Ss := B__law_means
def B__law_names : Ss := (.cons (.asg 2 (.lst .nil)) (.cons (.for_ [3] (.rng1 (.var 1)) (.cons (.app 2 (.call i__law_name (.cons (.var 0) (.cons (.var 2) .nil)))) .nil)) (.cons (.ret (.blt 11 (.cons (.var 2) .nil))) .nil)))
abbrev b17 : Ss := B__law_names
def B__law_letters : Ss := (.cons (.ret (.blt 20 (.cons (.lit (.str (Sl []))) (.cons (.lc (.ix (.lit (.str (Sl [97, 98, 99, 100, 101, 102, 103, 104, 105, 106, 107, 108, 109, 110, 111, 112, 113, 114, 115, 116, 117, 118, 119, 120, 121, 122]))) (.call i__law_take (.cons (.var 0) (.cons (.lit (.int 26)) .nil)))) [2] (.rng1 (.var 1)) .nil [2]) .nil)))) .nil)
abbrev b18 : Ss := B__law_letters
def B_looks_of : Ss := (.cons (.asg 3 (.make 2 (.cons (.var 0) (.cons (.var 1) .nil)))) (.cons (.ret (.blt 1 (.cons (.lc (.meth (Sl [108, 111, 111, 107]) (.var 3) (.cons (.var 4) .nil)) [4] (.seq (.meth (Sl [115, 116, 97, 103, 101, 115]) (.var 3) (.cons (.var 2) .nil))) .nil [4]) .nil))) .nil))
abbrev b19 : Ss := B_looks_of
def B_need_acted : Ss := (.cons (.exp (.call i_need_list (.cons (.var 0) .nil))) (.cons (.exp (.call i_need_back (.cons (.var 1) .nil))) (.cons (.exp (.call i_need_acts (.cons (.fld (.var 0) (Sl [114, 105, 103])) (.cons (.var 2) .nil)))) .nil)))
abbrev b20 : Ss := B_need_acted
def B_CueList___init__ : Ss := (.cons (.exp (.call i_need_rig (.cons (.var 1) .nil))) (.cons (.exp (.call i_need_cues (.cons (.var 1) (.cons (.var 2) .nil)))) (.cons (.fldS (.var 0) (Sl [114, 105, 103]) (.var 1)) (.cons (.fldS (.var 0) (Sl [99, 117, 101, 115]) (.var 2)) (.cons (.fldS (.var 0) (Sl [112, 97, 114, 116, 115]) (.tup (.cons (.fld (.var 1) (Sl [112, 97, 114, 116, 115])) (.cons (.var 2) .nil)))) (.cons (.fldS (.var 0) (Sl [109, 101, 97, 110, 115]) (.call i_meanings (.cons (.var 1) (.cons (.var 2) .nil)))) (.cons (.fldS (.var 0) (Sl [112, 108, 97, 99, 101, 115]) (.dc (.ix (.var 4) (.lit (.int 0))) (.var 3) [3, 4] (.enum (.var 2)) .nil [3, 4])) .nil)))))))
abbrev b21 : Ss := B_CueList___init__
def B_Rig___init__ : Ss := (.cons (.exp (.call i_need_channels (.cons (.var 1) .nil))) (.cons (.exp (.call i_need_number (.cons (.var 2) (.cons (.lit (.int 1)) (.cons (.lit (.int 9)) .nil))))) (.cons (.fldS (.var 0) (Sl [99, 104, 97, 110, 110, 101, 108, 115]) (.var 1)) (.cons (.fldS (.var 0) (Sl [116, 111, 112]) (.var 2)) (.cons (.fldS (.var 0) (Sl [112, 97, 114, 116, 115]) (.tup (.cons (.var 1) (.cons (.var 2) .nil)))) .nil)))))
abbrev b22 : Ss := B_Rig___init__
def B_need_acts : Ss := (.cons (.ife (.not (.isB (.var 1) 3)) (.cons .bad .nil) .nil) (.cons (.asg 2 (.call i_first_wrong_act (.cons (.var 0) (.cons (.var 1) .nil)))) (.cons (.ife (.cmp .IsNot (.var 2) (.lit .non)) (.cons .bad .nil) .nil) .nil)))
abbrev b23 : Ss := B_need_acts
def B_need_back : Ss := (.cons (.exp (.call i_need_number (.cons (.var 0) (.cons (.lit (.int 0)) (.cons (.lit (.int 5)) .nil))))) .nil)
abbrev b24 : Ss := B_need_back
def B_need_list : Ss := (.cons (.ife (.not (.isC (.var 0) 0)) (.cons .bad .nil) .nil) .nil)
abbrev b25 : Ss := B_need_list
def B_Score___init__ : Ss := (.cons (.fldS (.var 0) (Sl [99, 117, 101, 115]) (.var 1)) (.cons (.fldS (.var 0) (Sl [98, 97, 99, 107]) (.var 2)) (.cons (.fldS (.var 0) (Sl [114, 111, 119, 115]) (.fld (.var 1) (Sl [99, 117, 101, 115]))) (.cons (.fldS (.var 0) (Sl [99, 104, 97, 110, 110, 101, 108, 115]) (.fld (.fld (.var 1) (Sl [114, 105, 103])) (Sl [99, 104, 97, 110, 110, 101, 108, 115]))) (.cons (.fldS (.var 0) (Sl [109, 101, 97, 110, 115]) (.fld (.var 1) (Sl [109, 101, 97, 110, 115]))) (.cons (.fldS (.var 0) (Sl [112, 108, 97, 99, 101, 115]) (.fld (.var 1) (Sl [112, 108, 97, 99, 101, 115]))) (.cons (.fldS (.var 0) (Sl [101, 118, 101, 114, 121, 98, 111, 100, 121]) (.dc (.var 3) (.lit (.bl true)) [3] (.rng1 (.blt 0 (.cons (.fld (.var 0) (Sl [99, 104, 97, 110, 110, 101, 108, 115])) .nil))) .nil [3])) (.cons (.fldS (.var 0) (Sl [115, 101, 110, 100, 101, 114, 115]) (.lc (.meth (Sl [115, 101, 110, 100, 101, 114, 115, 95, 111, 102]) (.var 0) (.cons (.var 4) .nil)) [4] (.seq (.fld (.var 0) (Sl [114, 111, 119, 115]))) .nil [4])) .nil))))))))
abbrev b26 : Ss := B_Score___init__
def B_meanings : Ss := (.cons (.asg 2 (.lst (.cons (.bin .Mult (.tup (.cons (.lit (.int 0)) .nil)) (.blt 0 (.cons (.fld (.var 0) (Sl [99, 104, 97, 110, 110, 101, 108, 115])) .nil))) .nil))) (.cons (.for_ [3] (.seq (.var 1)) (.cons (.app 2 (.call i_meaning_behind (.cons (.var 0) (.cons (.ix (.var 2) (.neg (.lit (.int 1)))) (.cons (.var 3) .nil))))) .nil)) (.cons (.ret (.blt 1 (.cons (.var 2) .nil))) .nil)))
abbrev b27 : Ss := B_meanings
def B_need_cues : Ss := (.cons (.ife (.not (.isB (.var 1) 3)) (.cons .bad .nil) .nil) (.cons (.asg 2 (.call i_first_wrong_cue (.cons (.var 0) (.cons (.var 1) .nil)))) (.cons (.ife (.cmp .IsNot (.var 2) (.lit .non)) (.cons .bad .nil) .nil) .nil)))
abbrev b28 : Ss := B_need_cues
def B_need_rig : Ss := (.cons (.ife (.not (.isC (.var 0) 1)) (.cons .bad .nil) .nil) .nil)
abbrev b29 : Ss := B_need_rig
def B_need_channels : Ss := (.cons (.ife (.or2 (.not (.isB (.var 0) 3)) (.cmp .Eq (.blt 0 (.cons (.var 0) .nil)) (.lit (.int 0)))) (.cons .bad .nil) .nil) (.cons (.asg 1 (.call i_first_wrong_name (.cons (.slc (.var 0) .no (.so (.lit (.int 8)))) .nil))) (.cons (.ife (.cmp .IsNot (.var 1) (.lit .non)) (.cons .bad .nil) .nil) (.cons (.ife (.cmp .Gt (.blt 0 (.cons (.var 0) .nil)) (.lit (.int 8))) (.cons .bad .nil) .nil) .nil))))
abbrev b30 : Ss := B_need_channels
def B_need_number : Ss := (.cons (.ife (.not (.call i_is_number (.cons (.var 0) (.cons (.var 1) (.cons (.var 2) .nil))))) (.cons .bad .nil) .nil) .nil)
abbrev b31 : Ss := B_need_number
def B_first_wrong_act : Ss := (.cons (.for_ [2, 3] (.enum (.var 1)) (.cons (.ife (.or2 (.cmp .Eq (.var 2) (.lit (.int 60))) (.not (.call i_is_act (.cons (.var 0) (.cons (.var 3) .nil))))) (.cons (.ret (.var 2)) .nil) .nil) .nil)) (.cons (.ret (.lit .non)) .nil))
abbrev b32 : Ss := B_first_wrong_act
def B_meaning_behind : Ss := (.cons (.asg 3 (.dc (.var 4) (.var 5) [4, 5] (.seq (.ix (.var 2) (.lit (.int 1)))) .nil [4, 5])) (.cons (.ret (.blt 1 (.cons (.lc (.dget2 (.var 3) (.var 4) (.var 5)) [4, 5] (.zip (.fld (.var 0) (Sl [99, 104, 97, 110, 110, 101, 108, 115])) (.var 1)) .nil [4, 5]) .nil))) .nil))
abbrev b33 : Ss := B_meaning_behind
def B_first_wrong_cue : Ss := (.cons (.for_ [2, 3] (.enum (.var 1)) (.cons (.ife (.or2 (.cmp .Eq (.var 2) (.lit (.int 20))) (.not (.call i_is_cue (.cons (.var 0) (.cons (.var 3) .nil))))) (.cons (.ret (.var 2)) .nil) .nil) (.cons (.ife (.and2 (.cmp .Gt (.var 2) (.lit (.int 0))) (.cmp .LtE (.ix (.var 3) (.lit (.int 0))) (.ix (.ix (.var 1) (.bin .Sub (.var 2) (.lit (.int 1)))) (.lit (.int 0))))) (.cons (.ret (.var 2)) .nil) .nil) .nil))) (.cons (.ret (.lit .non)) .nil))
abbrev b34 : Ss := B_first_wrong_cue
def B_first_wrong_name : Ss := (.cons (.for_ [1, 2] (.enum (.var 0)) (.cons (.ife (.or2 (.not (.call i_is_name (.cons (.var 2) .nil))) (.and2 (.cmp .Gt (.var 1) (.lit (.int 0))) (.cmp .LtE (.var 2) (.ix (.var 0) (.bin .Sub (.var 1) (.lit (.int 1))))))) (.cons (.ret (.var 1)) .nil) .nil) .nil)) (.cons (.ret (.lit .non)) .nil))
abbrev b35 : Ss := B_first_wrong_name
def B_is_number : Ss := (.cons (.ret (.and2 (.call i_is_whole (.cons (.var 0) .nil)) (.chn .LtE .LtE (.var 1) (.var 0) (.var 2)))) .nil)
abbrev b36 : Ss := B_is_number
def B_is_act : Ss := (.cons (.ife (.not (.call i_has_act_size (.cons (.var 1) .nil))) (.cons (.ret (.lit (.bl false))) .nil) .nil) (.cons (.ife (.cmp .Eq (.ix (.var 1) (.lit (.int 0))) (.lit (.str (Sl [106, 117, 109, 112])))) (.cons (.ret (.call i_is_number (.cons (.ix (.var 1) (.lit (.int 1))) (.cons (.lit (.int 1)) (.cons (.lit (.int 999)) .nil))))) .nil) .nil) (.cons (.ife (.cmp .Eq (.ix (.var 1) (.lit (.int 0))) (.lit (.str (Sl [102, 114, 101, 101])))) (.cons (.ret (.call i_is_known (.cons (.ix (.var 1) (.lit (.int 1))) (.cons (.fld (.var 0) (Sl [99, 104, 97, 110, 110, 101, 108, 115])) .nil)))) .nil) .nil) (.cons (.ife (.cmp .Eq (.ix (.var 1) (.lit (.int 0))) (.lit (.str (Sl [104, 111, 108, 100])))) (.cons (.ret (.and2 (.call i_is_known (.cons (.ix (.var 1) (.lit (.int 1))) (.cons (.fld (.var 0) (Sl [99, 104, 97, 110, 110, 101, 108, 115])) .nil))) (.call i_is_number (.cons (.ix (.var 1) (.lit (.int 2))) (.cons (.lit (.int 0)) (.cons (.fld (.var 0) (Sl [116, 111, 112])) .nil)))))) .nil) .nil) (.cons (.ret (.lit (.bl true))) .nil)))))
abbrev b37 : Ss := B_is_act
def B_is_cue : Ss := (.cons (.ife (.or2 (.not (.isB (.var 1) 3)) (.cmp .NotEq (.blt 0 (.cons (.var 1) .nil)) (.lit (.int 5)))) (.cons (.ret (.lit (.bl false))) .nil) .nil) (.cons (.ife (.or2 (.not (.call i_is_cue_number (.cons (.ix (.var 1) (.lit (.int 0))) .nil))) (.not (.call i_are_moves (.cons (.var 0) (.cons (.ix (.var 1) (.lit (.int 1))) .nil))))) (.cons (.ret (.lit (.bl false))) .nil) .nil) (.cons (.ret (.and2 (.call i_is_number (.cons (.ix (.var 1) (.lit (.int 2))) (.cons (.lit (.int 0)) (.cons (.lit (.int 5)) .nil)))) (.and2 (.call i_is_follow (.cons (.ix (.var 1) (.lit (.int 3))) .nil)) (.call i_is_truth (.cons (.ix (.var 1) (.lit (.int 4))) .nil))))) .nil)))
abbrev b38 : Ss := B_is_cue
def B_is_name : Ss := (.cons (.ret (.and2 (.call i_are_letters (.cons (.var 0) .nil)) (.and2 (.cmp .LtE (.blt 0 (.cons (.var 0) .nil)) (.lit (.int 8))) (.cmp .NotIn (.var 0) (.lit (.kd 1)))))) .nil)
abbrev b39 : Ss := B_is_name
def B_is_whole : Ss := (.cons (.ret (.and2 (.isB (.var 0) 0) (.not (.isB (.var 0) 1)))) .nil)
abbrev b40 : Ss := B_is_whole
def B_has_act_size : Ss := (.cons (.ife (.or2 (.not (.isB (.var 0) 3)) (.or2 (.cmp .Eq (.blt 0 (.cons (.var 0) .nil)) (.lit (.int 0))) (.not (.isB (.ix (.var 0) (.lit (.int 0))) 2)))) (.cons (.ret (.lit (.bl false))) .nil) .nil) (.cons (.ret (.and2 (.cmp .In (.ix (.var 0) (.lit (.int 0))) (.lit (.kd 0))) (.cmp .Eq (.blt 0 (.cons (.var 0) .nil)) (.ix (.lit (.kd 0)) (.ix (.var 0) (.lit (.int 0))))))) .nil))
abbrev b41 : Ss := B_has_act_size
def B_is_known : Ss := (.cons (.ret (.and2 (.isB (.var 0) 2) (.cmp .In (.var 0) (.var 1)))) .nil)
abbrev b42 : Ss := B_is_known
def B_are_moves : Ss := (.cons (.ife (.or2 (.not (.isB (.var 1) 3)) (.not (.blt 9 (.cons (.lc (.call i_is_move (.cons (.var 0) (.cons (.var 3) .nil))) [3] (.seq (.var 1)) .nil [3]) .nil)))) (.cons (.ret (.lit (.bl false))) .nil) .nil) (.cons (.ret (.blt 9 (.cons (.lc (.cmp .Lt (.ix (.ix (.var 1) (.bin .Sub (.var 2) (.lit (.int 1)))) (.lit (.int 0))) (.ix (.ix (.var 1) (.var 2)) (.lit (.int 0)))) [2] (.rng2 (.lit (.int 1)) (.blt 0 (.cons (.var 1) .nil))) .nil [2]) .nil))) .nil))
abbrev b43 : Ss := B_are_moves
def B_is_cue_number : Ss := (.cons (.ret (.call i_is_number (.cons (.var 0) (.cons (.lit (.int 1)) (.cons (.lit (.int 999)) .nil))))) .nil)
abbrev b44 : Ss := B_is_cue_number
def B_is_follow : Ss := (.cons (.ret (.or2 (.cmp .Is (.var 0) (.lit .non)) (.call i_is_number (.cons (.var 0) (.cons (.lit (.int 1)) (.cons (.lit (.int 5)) .nil)))))) .nil)
abbrev b45 : Ss := B_is_follow
def B_is_truth : Ss := (.cons (.ret (.isB (.var 0) 1)) .nil)
abbrev b46 : Ss := B_is_truth
def B_are_letters : Ss := (.cons (.ret (.and2 (.isB (.var 0) 2) (.and2 (.cmp .NotEq (.var 0) (.lit (.str (Sl [])))) (.blt 9 (.cons (.lc (.cmp .In (.var 1) (.lit (.str (Sl [97, 98, 99, 100, 101, 102, 103, 104, 105, 106, 107, 108, 109, 110, 111, 112, 113, 114, 115, 116, 117, 118, 119, 120, 121, 122])))) [1] (.seq (.var 0)) .nil [1]) .nil))))) .nil)
abbrev b47 : Ss := B_are_letters
def B_is_move : Ss := (.cons (.ife (.or2 (.not (.isB (.var 1) 3)) (.cmp .NotEq (.blt 0 (.cons (.var 1) .nil)) (.lit (.int 2)))) (.cons (.ret (.lit (.bl false))) .nil) .nil) (.cons (.ret (.and2 (.call i_is_known (.cons (.ix (.var 1) (.lit (.int 0))) (.cons (.fld (.var 0) (Sl [99, 104, 97, 110, 110, 101, 108, 115])) .nil))) (.call i_is_level (.cons (.var 0) (.cons (.ix (.var 1) (.lit (.int 1))) .nil))))) .nil))
abbrev b48 : Ss := B_is_move
def B_is_level : Ss := (.cons (.ret (.call i_is_number (.cons (.var 1) (.cons (.lit (.int 0)) (.cons (.fld (.var 0) (Sl [116, 111, 112])) .nil))))) .nil)
abbrev b49 : Ss := B_is_level
def B_Score_look : Ss := (.cons (.asg 2 (.dc (.var 3) (.var 4) [3, 4] (.seq (.ix (.var 1) (.lit (.int 3)))) .nil [3, 4])) (.cons (.ret (.blt 1 (.cons (.lc (.dget2 (.var 2) (.var 3) (.call i_level_of (.cons (.var 5) .nil))) [3, 5] (.zip (.fld (.var 0) (Sl [99, 104, 97, 110, 110, 101, 108, 115])) (.ix (.var 1) (.lit (.int 0)))) .nil [3, 5]) .nil))) .nil))
abbrev b50 : Ss := B_Score_look
def B_Score_senders_of : Ss := (.cons (.ife (.ix (.var 1) (.lit (.int 4))) (.cons (.ret (.fld (.var 0) (Sl [101, 118, 101, 114, 121, 98, 111, 100, 121]))) .nil) .nil) (.cons (.asg 2 (.dc (.var 3) (.lit (.bl true)) [3, 4] (.seq (.ix (.var 1) (.lit (.int 1)))) .nil [3, 4])) (.cons (.ret (.dc (.var 5) (.lit (.bl true)) [5, 3] (.enum (.fld (.var 0) (Sl [99, 104, 97, 110, 110, 101, 108, 115]))) (.cons (.cmp .In (.var 3) (.var 2)) .nil) [5, 3])) .nil)))
abbrev b51 : Ss := B_Score_senders_of
def B_Score_stages : Ss := (.cons (.asg 2 (.lst (.cons (.meth (Sl [102, 105, 114, 115, 116]) (.var 0) .nil) .nil))) (.cons (.for_ [3] (.seq (.var 1)) (.cons (.app 2 (.meth (Sl [98, 101, 104, 105, 110, 100]) (.var 0) (.cons (.ix (.var 2) (.neg (.lit (.int 1)))) (.cons (.var 3) .nil)))) .nil)) (.cons (.ret (.var 2)) .nil)))
abbrev b52 : Ss := B_Score_stages
def B_level_of : Ss := (.cons (.asgT [.nm 1, .nm 2, .nm 3, .nm 4] (.var 0)) (.cons (.ret (.ife (.cmp .Lt (.var 3) (.var 4)) (.bin .Add (.var 1) (.bin .FloorDiv (.bin .Mult (.bin .Sub (.var 2) (.var 1)) (.var 3)) (.var 4))) (.var 2))) .nil))
abbrev b53 : Ss := B_level_of
def B_Score_behind : Ss := (.cons (.asgT [.nm 3, .nm 4, .nm 5, .nm 6] (.var 1)) (.cons (.ife (.cmp .In (.ix (.var 2) (.lit (.int 0))) (.tup (.cons (.lit (.str (Sl [104, 111, 108, 100]))) (.cons (.lit (.str (Sl [102, 114, 101, 101]))) .nil)))) (.cons (.ret (.tup (.cons (.var 3) (.cons (.var 4) (.cons (.var 5) (.cons (.call i_held_behind (.cons (.var 6) (.cons (.var 2) .nil))) .nil)))))) .nil) .nil) (.cons (.asgT [.nm 4, .nm 5, .nm 7] (.meth (Sl [109, 111, 118, 101, 100]) (.var 0) (.cons (.var 4) (.cons (.var 5) (.cons (.var 2) .nil))))) (.cons (.ret (.tup (.cons (.blt 1 (.cons (.lc (.meth (Sl [114, 117, 110, 95, 98, 101, 104, 105, 110, 100]) (.var 0) (.cons (.var 8) (.cons (.var 9) (.cons (.var 2) (.cons (.var 4) (.cons (.var 7) .nil)))))) [8, 9] (.enum (.var 3)) .nil [8, 9]) .nil)) (.cons (.var 4) (.cons (.var 5) (.cons (.var 6) .nil)))))) .nil))))
abbrev b54 : Ss := B_Score_behind
def B_Score_first : Ss := (.cons (.ret (.tup (.cons (.bin .Mult (.tup (.cons (.lit (.tup [.int 0, .int 0, .int 0, .int 0])) .nil)) (.blt 0 (.cons (.fld (.var 0) (Sl [99, 104, 97, 110, 110, 101, 108, 115])) .nil))) (.cons (.neg (.lit (.int 1))) (.cons (.lit (.int (-1))) (.cons (.tup .nil) .nil)))))) .nil)
abbrev b55 : Ss := B_Score_first
def B_held_behind : Ss := (.cons (.asg 2 (.dc (.var 3) (.var 4) [3, 4] (.seq (.var 0)) (.cons (.cmp .NotEq (.var 3) (.ix (.var 1) (.lit (.int 1)))) .nil) [3, 4])) (.cons (.ife (.cmp .Eq (.ix (.var 1) (.lit (.int 0))) (.lit (.str (Sl [104, 111, 108, 100])))) (.cons (.subS (.var 2) (.ix (.var 1) (.lit (.int 1))) (.ix (.var 1) (.lit (.int 2)))) .nil) .nil) (.cons (.ret (.blt 1 (.cons (.lc (.tup (.cons (.var 3) (.cons (.ix (.var 2) (.var 3)) .nil))) [3] (.seq (.blt 11 (.cons (.blt 2 (.cons (.var 2) .nil)) .nil))) .nil [3]) .nil))) .nil)))
abbrev b56 : Ss := B_held_behind
def B_Score_moved : Ss := (.cons (.asg 4 (.ix (.var 3) (.lit (.int 0)))) (.cons (.ife (.cmp .Eq (.var 4) (.lit (.str (Sl [119, 97, 105, 116])))) (.cons (.ret (.meth (Sl [112, 97, 115, 115, 105, 110, 103]) (.var 0) (.cons (.var 1) (.cons (.var 2) .nil)))) .nil) .nil) (.cons (.ife (.cmp .Eq (.var 4) (.lit (.str (Sl [106, 117, 109, 112])))) (.cons (.ret (.meth (Sl [106, 117, 109, 112, 105, 110, 103]) (.var 0) (.cons (.var 1) (.cons (.var 2) (.cons (.ix (.var 3) (.lit (.int 1))) .nil))))) .nil) .nil) (.cons (.ife (.and2 (.cmp .Eq (.var 4) (.lit (.str (Sl [103, 111])))) (.cmp .Lt (.bin .Add (.var 1) (.lit (.int 1))) (.blt 0 (.cons (.fld (.var 0) (Sl [114, 111, 119, 115])) .nil)))) (.cons (.ret (.meth (Sl [115, 116, 97, 114, 116, 105, 110, 103]) (.var 0) (.cons (.bin .Add (.var 1) (.lit (.int 1))) .nil))) .nil) .nil) (.cons (.ife (.and2 (.cmp .Eq (.var 4) (.lit (.str (Sl [98, 97, 99, 107])))) (.cmp .GtE (.var 1) (.lit (.int 0)))) (.cons (.ret (.tup (.cons (.bin .Sub (.var 1) (.lit (.int 1))) (.cons (.lit (.int (-1))) (.cons (.tup (.cons (.fld (.var 0) (Sl [101, 118, 101, 114, 121, 98, 111, 100, 121])) (.cons (.fld (.var 0) (Sl [98, 97, 99, 107])) .nil))) .nil))))) .nil) .nil) (.cons (.ret (.tup (.cons (.var 1) (.cons (.var 2) (.cons (.lit (.tup [.tup [], .int 0])) .nil))))) .nil))))))
abbrev b57 : Ss := B_Score_moved
def B_Score_run_behind : Ss := (.cons (.asg 6 (.ife (.cmp .Eq (.ix (.var 3) (.lit (.int 0))) (.lit (.str (Sl [119, 97, 105, 116])))) (.call i_ticked (.cons (.var 2) .nil)) (.var 2))) (.cons (.asgT [.nm 7, .nm 8] (.var 5)) (.cons (.ret (.ife (.cmp .In (.var 1) (.var 7)) (.call i_sent (.cons (.var 6) (.cons (.ix (.ix (.fld (.var 0) (Sl [109, 101, 97, 110, 115])) (.bin .Add (.var 4) (.lit (.int 1)))) (.var 1)) (.cons (.var 8) .nil)))) (.var 6))) .nil)))
abbrev b58 : Ss := B_Score_run_behind
def B_sent : Ss := (.cons (.ife (.cmp .Eq (.ix (.var 0) (.lit (.int 1))) (.var 1)) (.cons (.ret (.var 0)) .nil) .nil) (.cons (.asg 3 (.call i_level_of (.cons (.var 0) .nil))) (.cons (.ret (.ife (.or2 (.cmp .Eq (.var 2) (.lit (.int 0))) (.cmp .Eq (.var 3) (.var 1))) (.call i_resting (.cons (.var 1) .nil)) (.tup (.cons (.var 3) (.cons (.var 1) (.cons (.lit (.int 0)) (.cons (.var 2) .nil))))))) .nil)))
abbrev b59 : Ss := B_sent
def B_ticked : Ss := (.cons (.asgT [.nm 1, .nm 2, .nm 3, .nm 4] (.var 0)) (.cons (.ife (.cmp .GtE (.var 3) (.var 4)) (.cons (.ret (.var 0)) .nil) .nil) (.cons (.ret (.ife (.cmp .Lt (.bin .Add (.var 3) (.lit (.int 1))) (.var 4)) (.tup (.cons (.var 1) (.cons (.var 2) (.cons (.bin .Add (.var 3) (.lit (.int 1))) (.cons (.var 4) .nil))))) (.call i_resting (.cons (.var 2) .nil)))) .nil)))
abbrev b60 : Ss := B_ticked
def B_resting : Ss := (.cons (.ret (.tup (.cons (.var 0) (.cons (.var 0) (.cons (.lit (.int 0)) (.cons (.lit (.int 0)) .nil)))))) .nil)
abbrev b61 : Ss := B_resting
def B_Score_jumping : Ss := (.cons (.ife (.cmp .NotIn (.var 3) (.fld (.var 0) (Sl [112, 108, 97, 99, 101, 115]))) (.cons (.ret (.tup (.cons (.var 1) (.cons (.var 2) (.cons (.lit (.tup [.tup [], .int 0])) .nil))))) .nil) .nil) (.cons (.asg 4 (.ix (.fld (.var 0) (Sl [112, 108, 97, 99, 101, 115])) (.var 3))) (.cons (.ret (.tup (.cons (.var 4) (.cons (.meth (Sl [102, 111, 108, 108, 111, 119, 95, 111, 102]) (.var 0) (.cons (.var 4) .nil)) (.cons (.tup (.cons (.fld (.var 0) (Sl [101, 118, 101, 114, 121, 98, 111, 100, 121])) (.cons (.ix (.ix (.fld (.var 0) (Sl [114, 111, 119, 115])) (.var 4)) (.lit (.int 2))) .nil))) .nil))))) .nil)))
abbrev b62 : Ss := B_Score_jumping
def B_Score_passing : Ss := (.cons (.ife (.cmp .Eq (.var 2) (.lit (.int 1))) (.cons (.ret (.meth (Sl [115, 116, 97, 114, 116, 105, 110, 103]) (.var 0) (.cons (.bin .Add (.var 1) (.lit (.int 1))) .nil))) .nil) .nil) (.cons (.ret (.tup (.cons (.var 1) (.cons (.ife (.cmp .Gt (.var 2) (.lit (.int 1))) (.bin .Sub (.var 2) (.lit (.int 1))) (.var 2)) (.cons (.lit (.tup [.tup [], .int 0])) .nil))))) .nil))
abbrev b63 : Ss := B_Score_passing
def B_Score_starting : Ss := (.cons (.ret (.tup (.cons (.var 1) (.cons (.meth (Sl [102, 111, 108, 108, 111, 119, 95, 111, 102]) (.var 0) (.cons (.var 1) .nil)) (.cons (.tup (.cons (.ix (.fld (.var 0) (Sl [115, 101, 110, 100, 101, 114, 115])) (.var 1)) (.cons (.ix (.ix (.fld (.var 0) (Sl [114, 111, 119, 115])) (.var 1)) (.lit (.int 2))) .nil))) .nil))))) .nil)
abbrev b64 : Ss := B_Score_starting
def B_Score_follow_of : Ss := (.cons (.asg 2 (.ix (.ix (.fld (.var 0) (Sl [114, 111, 119, 115])) (.var 1)) (.lit (.int 3)))) (.cons (.ret (.ife (.or2 (.cmp .Is (.var 2) (.lit .non)) (.cmp .Eq (.bin .Add (.var 1) (.lit (.int 1))) (.blt 0 (.cons (.fld (.var 0) (Sl [114, 111, 119, 115])) .nil)))) (.lit (.int (-1))) (.var 2))) .nil))
abbrev b65 : Ss := B_Score_follow_of
def fnsD : List FnR := [⟨1, 2, b0⟩, ⟨1, 8, b1⟩, ⟨2, 5, b2⟩, ⟨1, 7, b3⟩, ⟨6, 16, b4⟩, ⟨3, 10, b5⟩, ⟨3, 6, b6⟩, ⟨2, 2, b7⟩, ⟨6, 17, b8⟩, ⟨2, 2, b9⟩, ⟨2, 2, b10⟩, ⟨2, 4, b11⟩, ⟨2, 9, b12⟩, ⟨2, 3, b13⟩, ⟨3, 3, b14⟩, ⟨3, 3, b15⟩, ⟨3, 7, b16⟩, ⟨2, 4, b17⟩, ⟨2, 3, b18⟩, ⟨3, 5, b19⟩, ⟨3, 3, b20⟩, ⟨3, 5, b21⟩, ⟨3, 3, b22⟩, ⟨2, 3, b23⟩, ⟨1, 1, b24⟩, ⟨1, 1, b25⟩, ⟨3, 5, b26⟩, ⟨2, 4, b27⟩, ⟨2, 3, b28⟩, ⟨1, 1, b29⟩, ⟨1, 2, b30⟩, ⟨3, 3, b31⟩, ⟨2, 4, b32⟩, ⟨3, 6, b33⟩, ⟨2, 4, b34⟩, ⟨1, 3, b35⟩, ⟨3, 3, b36⟩, ⟨2, 2, b37⟩, ⟨2, 2, b38⟩, ⟨1, 1, b39⟩, ⟨1, 1, b40⟩, ⟨1, 1, b41⟩, ⟨2, 2, b42⟩, ⟨2, 4, b43⟩, ⟨1, 1, b44⟩, ⟨1, 1, b45⟩, ⟨1, 1, b46⟩, ⟨1, 2, b47⟩, ⟨2, 2, b48⟩, ⟨2, 2, b49⟩, ⟨2, 6, b50⟩, ⟨2, 6, b51⟩, ⟨2, 4, b52⟩, ⟨1, 5, b53⟩, ⟨3, 10, b54⟩, ⟨1, 1, b55⟩, ⟨2, 5, b56⟩, ⟨4, 5, b57⟩, ⟨6, 9, b58⟩, ⟨3, 4, b59⟩, ⟨1, 5, b60⟩, ⟨1, 1, b61⟩, ⟨4, 5, b62⟩, ⟨3, 3, b63⟩, ⟨2, 2, b64⟩, ⟨2, 3, b65⟩]
def clsD : List ClsR := [⟨21, [(Sl [114, 105, 103]), (Sl [99, 117, 101, 115]), (Sl [112, 97, 114, 116, 115]), (Sl [109, 101, 97, 110, 115]), (Sl [112, 108, 97, 99, 101, 115])], true, []⟩, ⟨22, [(Sl [99, 104, 97, 110, 110, 101, 108, 115]), (Sl [116, 111, 112]), (Sl [112, 97, 114, 116, 115])], true, []⟩, ⟨26, [(Sl [99, 117, 101, 115]), (Sl [98, 97, 99, 107]), (Sl [114, 111, 119, 115]), (Sl [99, 104, 97, 110, 110, 101, 108, 115]), (Sl [109, 101, 97, 110, 115]), (Sl [112, 108, 97, 99, 101, 115]), (Sl [101, 118, 101, 114, 121, 98, 111, 100, 121]), (Sl [115, 101, 110, 100, 101, 114, 115])], true, [((Sl [108, 111, 111, 107]), 50), ((Sl [115, 101, 110, 100, 101, 114, 115, 95, 111, 102]), 51), ((Sl [115, 116, 97, 103, 101, 115]), 52), ((Sl [98, 101, 104, 105, 110, 100]), 54), ((Sl [102, 105, 114, 115, 116]), 55), ((Sl [109, 111, 118, 101, 100]), 57), ((Sl [114, 117, 110, 95, 98, 101, 104, 105, 110, 100]), 58), ((Sl [106, 117, 109, 112, 105, 110, 103]), 62), ((Sl [112, 97, 115, 115, 105, 110, 103]), 63), ((Sl [115, 116, 97, 114, 116, 105, 110, 103]), 64), ((Sl [102, 111, 108, 108, 111, 119, 95, 111, 102]), 65)]⟩]
def kdsD : List (List (Str × Val)) := [[((Sl [103, 111]), .int 1), ((Sl [98, 97, 99, 107]), .int 1), ((Sl [106, 117, 109, 112]), .int 2), ((Sl [104, 111, 108, 100]), .int 3), ((Sl [102, 114, 101, 101]), .int 2), ((Sl [119, 97, 105, 116]), .int 1)], [((Sl [97, 108, 108]), .bl true), ((Sl [98, 97, 99, 107]), .bl true), ((Sl [98, 108, 97, 99, 107]), .bl true), ((Sl [99, 117, 101]), .bl true), ((Sl [99, 117, 116]), .bl true), ((Sl [100, 114, 111, 112]), .bl true), ((Sl [101, 100, 105, 116]), .bl true), ((Sl [102, 97, 100, 101]), .bl true), ((Sl [102, 111, 108, 108, 111, 119]), .bl true), ((Sl [102, 114, 101, 101]), .bl true), ((Sl [103, 111]), .bl true), ((Sl [104, 111, 108, 100]), .bl true), ((Sl [105, 110]), .bl true), ((Sl [106, 117, 109, 112]), .bl true), ((Sl [110, 111]), .bl true), ((Sl [110, 111, 110, 101]), .bl true), ((Sl [110, 111, 119]), .bl true), ((Sl [112, 117, 116]), .bl true), ((Sl [115, 110, 97, 112]), .bl true), ((Sl [116, 111]), .bl true), ((Sl [117, 110, 100, 111]), .bl true), ((Sl [119, 97, 105, 116]), .bl true), ((Sl [119, 104, 111, 108, 101]), .bl true), ((Sl [121, 101, 115]), .bl true)]]
def D : Tbl := ⟨fnsD, clsD, kdsD, 5000⟩
def fatL : List (Str × Option Str) := [(("law" : Str), none), (("_law_round" : Str), none), (("_law_well" : Str), none), (("_law_aged" : Str), none), (("_law_backs_right" : Str), none), (("_law_cues" : Str), none), (("_law_first_right" : Str), none), (("_law_list" : Str), none), (("_law_once_right" : Str), none), (("_law_pick" : Str), none), (("_law_rig" : Str), none), (("_law_take" : Str), none), (("_law_name" : Str), none), (("_law_same" : Str), none), (("look_of" : Str), none), (("stage_behind" : Str), none), (("_law_means" : Str), none), (("_law_names" : Str), none), (("_law_letters" : Str), none), (("looks_of" : Str), none), (("need_acted" : Str), none), (("CueList" : Str), some ("__init__" : Str)), (("Rig" : Str), some ("__init__" : Str)), (("need_acts" : Str), none), (("need_back" : Str), none), (("need_list" : Str), none), (("Score" : Str), some ("__init__" : Str)), (("meanings" : Str), none), (("need_cues" : Str), none), (("need_rig" : Str), none), (("need_channels" : Str), none), (("need_number" : Str), none), (("first_wrong_act" : Str), none), (("meaning_behind" : Str), none), (("first_wrong_cue" : Str), none), (("first_wrong_name" : Str), none), (("is_number" : Str), none), (("is_act" : Str), none), (("is_cue" : Str), none), (("is_name" : Str), none), (("is_whole" : Str), none), (("has_act_size" : Str), none), (("is_known" : Str), none), (("are_moves" : Str), none), (("is_cue_number" : Str), none), (("is_follow" : Str), none), (("is_truth" : Str), none), (("are_letters" : Str), none), (("is_move" : Str), none), (("is_level" : Str), none), (("Score" : Str), some ("look" : Str)), (("Score" : Str), some ("senders_of" : Str)), (("Score" : Str), some ("stages" : Str)), (("level_of" : Str), none), (("Score" : Str), some ("behind" : Str)), (("Score" : Str), some ("first" : Str)), (("held_behind" : Str), none), (("Score" : Str), some ("moved" : Str)), (("Score" : Str), some ("run_behind" : Str)), (("sent" : Str), none), (("ticked" : Str), none), (("resting" : Str), none), (("Score" : Str), some ("jumping" : Str)), (("Score" : Str), some ("passing" : Str)), (("Score" : Str), some ("starting" : Str)), (("Score" : Str), some ("follow_of" : Str))]
def sp : Eng.Spec := ⟨cnL, D, [("CueList" : Str), ("Rig" : Str), ("Score" : Str)], [("SIZES" : Str), ("WORDS" : Str)], fatL⟩
def d0 : He.DefD := ⟨(("law" : Str), none), ("law" : Str), ("law" : Str), defArgs st0, defBody st0, defScope st0, [], []⟩
def d1 : He.DefD := ⟨(("_law_round" : Str), none), ("_law_round" : Str), ("_law_round" : Str), defArgs st1, defBody st1, defScope st1, [], []⟩
def d2 : He.DefD := ⟨(("_law_well" : Str), none), ("_law_well" : Str), ("_law_well" : Str), defArgs st2, defBody st2, defScope st2, [], []⟩
def d3 : He.DefD := ⟨(("_law_aged" : Str), none), ("_law_aged" : Str), ("_law_aged" : Str), defArgs st3, defBody st3, defScope st3, [], []⟩
def d4 : He.DefD := ⟨(("_law_backs_right" : Str), none), ("_law_backs_right" : Str), ("_law_backs_right" : Str), defArgs st4, defBody st4, defScope st4, [], []⟩
def d5 : He.DefD := ⟨(("_law_cues" : Str), none), ("_law_cues" : Str), ("_law_cues" : Str), defArgs st5, defBody st5, defScope st5, [], []⟩
def d6 : He.DefD := ⟨(("_law_first_right" : Str), none), ("_law_first_right" : Str), ("_law_first_right" : Str), defArgs st6, defBody st6, defScope st6, [], []⟩
def d7 : He.DefD := ⟨(("_law_list" : Str), none), ("_law_list" : Str), ("_law_list" : Str), defArgs st7, defBody st7, defScope st7, [], []⟩
def d8 : He.DefD := ⟨(("_law_once_right" : Str), none), ("_law_once_right" : Str), ("_law_once_right" : Str), defArgs st8, defBody st8, defScope st8, [], []⟩
def d9 : He.DefD := ⟨(("_law_pick" : Str), none), ("_law_pick" : Str), ("_law_pick" : Str), defArgs st9, defBody st9, defScope st9, [], []⟩
def d10 : He.DefD := ⟨(("_law_rig" : Str), none), ("_law_rig" : Str), ("_law_rig" : Str), defArgs st10, defBody st10, defScope st10, [], []⟩
def d11 : He.DefD := ⟨(("_law_take" : Str), none), ("_law_take" : Str), ("_law_take" : Str), defArgs st11, defBody st11, defScope st11, [], []⟩
def d12 : He.DefD := ⟨(("_law_name" : Str), none), ("_law_name" : Str), ("_law_name" : Str), defArgs st12, defBody st12, defScope st12, [], []⟩
def d13 : He.DefD := ⟨(("_law_same" : Str), none), ("_law_same" : Str), ("_law_same" : Str), defArgs st13, defBody st13, defScope st13, [], []⟩
def d14 : He.DefD := ⟨(("look_of" : Str), none), ("look_of" : Str), ("look_of" : Str), defArgs st14, defBody st14, defScope st14, [], []⟩
def d15 : He.DefD := ⟨(("stage_behind" : Str), none), ("stage_behind" : Str), ("stage_behind" : Str), defArgs st15, defBody st15, defScope st15, [], []⟩
def d16 : He.DefD := ⟨(("_law_means" : Str), none), ("_law_means" : Str), ("_law_means" : Str), defArgs st16, defBody st16, defScope st16, [], []⟩
def d17 : He.DefD := ⟨(("_law_names" : Str), none), ("_law_names" : Str), ("_law_names" : Str), defArgs st17, defBody st17, defScope st17, [], []⟩
def d18 : He.DefD := ⟨(("_law_letters" : Str), none), ("_law_letters" : Str), ("_law_letters" : Str), defArgs st18, defBody st18, defScope st18, [], []⟩
def d19 : He.DefD := ⟨(("looks_of" : Str), none), ("looks_of" : Str), ("looks_of" : Str), defArgs st19, defBody st19, defScope st19, [], []⟩
def d20 : He.DefD := ⟨(("need_acted" : Str), none), ("need_acted" : Str), ("need_acted" : Str), defArgs st20, defBody st20, defScope st20, [], []⟩
def d21 : He.DefD := ⟨(("CueList" : Str), some ("__init__" : Str)), ("__init__" : Str), ("CueList.__init__" : Str), defArgs st21, defBody st21, defScope st21, [], []⟩
def d22 : He.DefD := ⟨(("Rig" : Str), some ("__init__" : Str)), ("__init__" : Str), ("Rig.__init__" : Str), defArgs st22, defBody st22, defScope st22, [], []⟩
def d23 : He.DefD := ⟨(("need_acts" : Str), none), ("need_acts" : Str), ("need_acts" : Str), defArgs st23, defBody st23, defScope st23, [], []⟩
def d24 : He.DefD := ⟨(("need_back" : Str), none), ("need_back" : Str), ("need_back" : Str), defArgs st24, defBody st24, defScope st24, [], []⟩
def d25 : He.DefD := ⟨(("need_list" : Str), none), ("need_list" : Str), ("need_list" : Str), defArgs st25, defBody st25, defScope st25, [], []⟩
def d26 : He.DefD := ⟨(("Score" : Str), some ("__init__" : Str)), ("__init__" : Str), ("Score.__init__" : Str), defArgs st26, defBody st26, defScope st26, [], []⟩
def d27 : He.DefD := ⟨(("meanings" : Str), none), ("meanings" : Str), ("meanings" : Str), defArgs st27, defBody st27, defScope st27, [], []⟩
def d28 : He.DefD := ⟨(("need_cues" : Str), none), ("need_cues" : Str), ("need_cues" : Str), defArgs st28, defBody st28, defScope st28, [], []⟩
def d29 : He.DefD := ⟨(("need_rig" : Str), none), ("need_rig" : Str), ("need_rig" : Str), defArgs st29, defBody st29, defScope st29, [], []⟩
def d30 : He.DefD := ⟨(("need_channels" : Str), none), ("need_channels" : Str), ("need_channels" : Str), defArgs st30, defBody st30, defScope st30, [], []⟩
def d31 : He.DefD := ⟨(("need_number" : Str), none), ("need_number" : Str), ("need_number" : Str), defArgs st31, defBody st31, defScope st31, [], []⟩
def d32 : He.DefD := ⟨(("first_wrong_act" : Str), none), ("first_wrong_act" : Str), ("first_wrong_act" : Str), defArgs st32, defBody st32, defScope st32, [], []⟩
def d33 : He.DefD := ⟨(("meaning_behind" : Str), none), ("meaning_behind" : Str), ("meaning_behind" : Str), defArgs st33, defBody st33, defScope st33, [], []⟩
def d34 : He.DefD := ⟨(("first_wrong_cue" : Str), none), ("first_wrong_cue" : Str), ("first_wrong_cue" : Str), defArgs st34, defBody st34, defScope st34, [], []⟩
def d35 : He.DefD := ⟨(("first_wrong_name" : Str), none), ("first_wrong_name" : Str), ("first_wrong_name" : Str), defArgs st35, defBody st35, defScope st35, [], []⟩
def d36 : He.DefD := ⟨(("is_number" : Str), none), ("is_number" : Str), ("is_number" : Str), defArgs st36, defBody st36, defScope st36, [], []⟩
def d37 : He.DefD := ⟨(("is_act" : Str), none), ("is_act" : Str), ("is_act" : Str), defArgs st37, defBody st37, defScope st37, [], []⟩
def d38 : He.DefD := ⟨(("is_cue" : Str), none), ("is_cue" : Str), ("is_cue" : Str), defArgs st38, defBody st38, defScope st38, [], []⟩
def d39 : He.DefD := ⟨(("is_name" : Str), none), ("is_name" : Str), ("is_name" : Str), defArgs st39, defBody st39, defScope st39, [], []⟩
def d40 : He.DefD := ⟨(("is_whole" : Str), none), ("is_whole" : Str), ("is_whole" : Str), defArgs st40, defBody st40, defScope st40, [], []⟩
def d41 : He.DefD := ⟨(("has_act_size" : Str), none), ("has_act_size" : Str), ("has_act_size" : Str), defArgs st41, defBody st41, defScope st41, [], []⟩
def d42 : He.DefD := ⟨(("is_known" : Str), none), ("is_known" : Str), ("is_known" : Str), defArgs st42, defBody st42, defScope st42, [], []⟩
def d43 : He.DefD := ⟨(("are_moves" : Str), none), ("are_moves" : Str), ("are_moves" : Str), defArgs st43, defBody st43, defScope st43, [], []⟩
def d44 : He.DefD := ⟨(("is_cue_number" : Str), none), ("is_cue_number" : Str), ("is_cue_number" : Str), defArgs st44, defBody st44, defScope st44, [], []⟩
def d45 : He.DefD := ⟨(("is_follow" : Str), none), ("is_follow" : Str), ("is_follow" : Str), defArgs st45, defBody st45, defScope st45, [], []⟩
def d46 : He.DefD := ⟨(("is_truth" : Str), none), ("is_truth" : Str), ("is_truth" : Str), defArgs st46, defBody st46, defScope st46, [], []⟩
def d47 : He.DefD := ⟨(("are_letters" : Str), none), ("are_letters" : Str), ("are_letters" : Str), defArgs st47, defBody st47, defScope st47, [], []⟩
def d48 : He.DefD := ⟨(("is_move" : Str), none), ("is_move" : Str), ("is_move" : Str), defArgs st48, defBody st48, defScope st48, [], []⟩
def d49 : He.DefD := ⟨(("is_level" : Str), none), ("is_level" : Str), ("is_level" : Str), defArgs st49, defBody st49, defScope st49, [], []⟩
def d50 : He.DefD := ⟨(("Score" : Str), some ("look" : Str)), ("look" : Str), ("Score.look" : Str), defArgs st50, defBody st50, defScope st50, [], []⟩
def d51 : He.DefD := ⟨(("Score" : Str), some ("senders_of" : Str)), ("senders_of" : Str), ("Score.senders_of" : Str), defArgs st51, defBody st51, defScope st51, [], []⟩
def d52 : He.DefD := ⟨(("Score" : Str), some ("stages" : Str)), ("stages" : Str), ("Score.stages" : Str), defArgs st52, defBody st52, defScope st52, [], []⟩
def d53 : He.DefD := ⟨(("level_of" : Str), none), ("level_of" : Str), ("level_of" : Str), defArgs st53, defBody st53, defScope st53, [], []⟩
def d54 : He.DefD := ⟨(("Score" : Str), some ("behind" : Str)), ("behind" : Str), ("Score.behind" : Str), defArgs st54, defBody st54, defScope st54, [], []⟩
def d55 : He.DefD := ⟨(("Score" : Str), some ("first" : Str)), ("first" : Str), ("Score.first" : Str), defArgs st55, defBody st55, defScope st55, [], []⟩
def d56 : He.DefD := ⟨(("held_behind" : Str), none), ("held_behind" : Str), ("held_behind" : Str), defArgs st56, defBody st56, defScope st56, [], []⟩
def d57 : He.DefD := ⟨(("Score" : Str), some ("moved" : Str)), ("moved" : Str), ("Score.moved" : Str), defArgs st57, defBody st57, defScope st57, [], []⟩
def d58 : He.DefD := ⟨(("Score" : Str), some ("run_behind" : Str)), ("run_behind" : Str), ("Score.run_behind" : Str), defArgs st58, defBody st58, defScope st58, [], []⟩
def d59 : He.DefD := ⟨(("sent" : Str), none), ("sent" : Str), ("sent" : Str), defArgs st59, defBody st59, defScope st59, [], []⟩
def d60 : He.DefD := ⟨(("ticked" : Str), none), ("ticked" : Str), ("ticked" : Str), defArgs st60, defBody st60, defScope st60, [], []⟩
def d61 : He.DefD := ⟨(("resting" : Str), none), ("resting" : Str), ("resting" : Str), defArgs st61, defBody st61, defScope st61, [], []⟩
def d62 : He.DefD := ⟨(("Score" : Str), some ("jumping" : Str)), ("jumping" : Str), ("Score.jumping" : Str), defArgs st62, defBody st62, defScope st62, [], []⟩
def d63 : He.DefD := ⟨(("Score" : Str), some ("passing" : Str)), ("passing" : Str), ("Score.passing" : Str), defArgs st63, defBody st63, defScope st63, [], []⟩
def d64 : He.DefD := ⟨(("Score" : Str), some ("starting" : Str)), ("starting" : Str), ("Score.starting" : Str), defArgs st64, defBody st64, defScope st64, [], []⟩
def d65 : He.DefD := ⟨(("Score" : Str), some ("follow_of" : Str)), ("follow_of" : Str), ("Score.follow_of" : Str), defArgs st65, defBody st65, defScope st65, [], []⟩
def fnL : List He.DefD := [d0, d1, d2, d3, d4, d5, d6, d7, d8, d9, d10, d11, d12, d13, d14, d15, d16, d17, d18, d19, d20, d21, d22, d23, d24, d25, d26, d27, d28, d29, d30, d31, d32, d33, d34, d35, d36, d37, d38, d39, d40, d41, d42, d43, d44, d45, d46, d47, d48, d49, d50, d51, d52, d53, d54, d55, d56, d57, d58, d59, d60, d61, d62, d63, d64, d65]
theorem c0 : cBl (cS cnL N0 60 (defScope st0) 60) (defBody st0) = some b0 := by kernel_rfl
theorem s0 : FnScope N0 [("script" : Str)] (defScope st0) := C8.fnScope_by (by decide +kernel)
theorem ff0 : FF sp fnL 0 := ⟨⟨d0, [("script" : Str)], N0, 60, 60, ⟨1, 2, b0⟩, List.mem_of_getElem? (i := 0) rfl, rfl, rfl, rfl, s0, rfl, rfl, rfl, c0, fun _ _ _ _ _ _ us hl => match us, hl with | [_], _ => rfl⟩⟩
theorem c1 : cBl (cS cnL N1 60 (defScope st1) 60) (defBody st1) = some b1 := by kernel_rfl
theorem s1 : FnScope N1 [("well" : Str)] (defScope st1) := C8.fnScope_by (by decide +kernel)
theorem ff1 : FF sp fnL 1 := ⟨⟨d1, [("well" : Str)], N1, 60, 60, ⟨1, 8, b1⟩, List.mem_of_getElem? (i := 1) rfl, rfl, rfl, rfl, s1, rfl, rfl, rfl, c1, fun _ _ _ _ _ _ us hl => match us, hl with | [_], _ => rfl⟩⟩
theorem c2 : cBl (cS cnL N2 60 (defScope st2) 60) (defBody st2) = some b2 := by kernel_rfl
theorem s2 : FnScope N2 [("script" : Str), ("turn" : Str)] (defScope st2) := C8.fnScope_by (by decide +kernel)
theorem ff2 : FF sp fnL 2 := ⟨⟨d2, [("script" : Str), ("turn" : Str)], N2, 60, 60, ⟨2, 5, b2⟩, List.mem_of_getElem? (i := 2) rfl, rfl, rfl, rfl, s2, rfl, rfl, rfl, c2, fun _ _ _ _ _ _ us hl => match us, hl with | [_, _], _ => rfl⟩⟩
theorem c3 : cBl (cS cnL N3 60 (defScope st3) 60) (defBody st3) = some b3 := by kernel_rfl
theorem s3 : FnScope N3 [("well" : Str)] (defScope st3) := C8.fnScope_by (by decide +kernel)
theorem ff3 : FF sp fnL 3 := ⟨⟨d3, [("well" : Str)], N3, 60, 60, ⟨1, 7, b3⟩, List.mem_of_getElem? (i := 3) rfl, rfl, rfl, rfl, s3, rfl, rfl, rfl, c3, fun _ _ _ _ _ _ us hl => match us, hl with | [_], _ => rfl⟩⟩
theorem c4 : cBl (cS cnL N4 60 (defScope st4) 60) (defBody st4) = some b4 := by kernel_rfl
theorem s4 : FnScope N4 [("shows" : Str), ("rig" : Str), ("cues" : Str), ("back" : Str), ("gos" : Str), ("backs" : Str)] (defScope st4) := C8.fnScope_by (by decide +kernel)
theorem ff4 : FF sp fnL 4 := ⟨⟨d4, [("shows" : Str), ("rig" : Str), ("cues" : Str), ("back" : Str), ("gos" : Str), ("backs" : Str)], N4, 60, 60, ⟨6, 16, b4⟩, List.mem_of_getElem? (i := 4) rfl, rfl, rfl, rfl, s4, rfl, rfl, rfl, c4, fun _ _ _ _ _ _ us hl => match us, hl with | [_, _, _, _, _, _], _ => rfl⟩⟩
theorem c5 : cBl (cS cnL N5 60 (defScope st5) 60) (defBody st5) = some b5 := by kernel_rfl
theorem s5 : FnScope N5 [("well" : Str), ("rig" : Str), ("many" : Str)] (defScope st5) := C8.fnScope_by (by decide +kernel)
theorem ff5 : FF sp fnL 5 := ⟨⟨d5, [("well" : Str), ("rig" : Str), ("many" : Str)], N5, 60, 60, ⟨3, 10, b5⟩, List.mem_of_getElem? (i := 5) rfl, rfl, rfl, rfl, s5, rfl, rfl, rfl, c5, fun _ _ _ _ _ _ us hl => match us, hl with | [_, _, _], _ => rfl⟩⟩
theorem c6 : cBl (cS cnL N6 60 (defScope st6) 60) (defBody st6) = some b6 := by kernel_rfl
theorem s6 : FnScope N6 [("shows" : Str), ("rig" : Str), ("back" : Str)] (defScope st6) := C8.fnScope_by (by decide +kernel)
theorem ff6 : FF sp fnL 6 := ⟨⟨d6, [("shows" : Str), ("rig" : Str), ("back" : Str)], N6, 60, 60, ⟨3, 6, b6⟩, List.mem_of_getElem? (i := 6) rfl, rfl, rfl, rfl, s6, rfl, rfl, rfl, c6, fun _ _ _ _ _ _ us hl => match us, hl with | [_, _, _], _ => rfl⟩⟩
theorem c7 : cBl (cS cnL N7 60 (defScope st7) 60) (defBody st7) = some b7 := by kernel_rfl
theorem s7 : FnScope N7 [("rig" : Str), ("cues" : Str)] (defScope st7) := C8.fnScope_by (by decide +kernel)
theorem ff7 : FF sp fnL 7 := ⟨⟨d7, [("rig" : Str), ("cues" : Str)], N7, 60, 60, ⟨2, 2, b7⟩, List.mem_of_getElem? (i := 7) rfl, rfl, rfl, rfl, s7, rfl, rfl, rfl, c7, fun _ _ _ _ _ _ us hl => match us, hl with | [_, _], _ => rfl⟩⟩
theorem c8 : cBl (cS cnL N8 60 (defScope st8) 60) (defBody st8) = some b8 := by kernel_rfl
theorem s8 : FnScope N8 [("shows" : Str), ("rig" : Str), ("cues" : Str), ("back" : Str), ("place" : Str), ("waits" : Str)] (defScope st8) := C8.fnScope_by (by decide +kernel)
theorem ff8 : FF sp fnL 8 := ⟨⟨d8, [("shows" : Str), ("rig" : Str), ("cues" : Str), ("back" : Str), ("place" : Str), ("waits" : Str)], N8, 60, 60, ⟨6, 17, b8⟩, List.mem_of_getElem? (i := 8) rfl, rfl, rfl, rfl, s8, rfl, rfl, rfl, c8, fun _ _ _ _ _ _ us hl => match us, hl with | [_, _, _, _, _, _], _ => rfl⟩⟩
theorem c9 : cBl (cS cnL N9 60 (defScope st9) 60) (defBody st9) = some b9 := by kernel_rfl
theorem s9 : FnScope N9 [("well" : Str), ("some" : Str)] (defScope st9) := C8.fnScope_by (by decide +kernel)
theorem ff9 : FF sp fnL 9 := ⟨⟨d9, [("well" : Str), ("some" : Str)], N9, 60, 60, ⟨2, 2, b9⟩, List.mem_of_getElem? (i := 9) rfl, rfl, rfl, rfl, s9, rfl, rfl, rfl, c9, fun _ _ _ _ _ _ us hl => match us, hl with | [_, _], _ => rfl⟩⟩
theorem c10 : cBl (cS cnL N10 60 (defScope st10) 60) (defBody st10) = some b10 := by kernel_rfl
theorem s10 : FnScope N10 [("well" : Str), ("most" : Str)] (defScope st10) := C8.fnScope_by (by decide +kernel)
theorem ff10 : FF sp fnL 10 := ⟨⟨d10, [("well" : Str), ("most" : Str)], N10, 60, 60, ⟨2, 2, b10⟩, List.mem_of_getElem? (i := 10) rfl, rfl, rfl, rfl, s10, rfl, rfl, rfl, c10, fun _ _ _ _ _ _ us hl => match us, hl with | [_, _], _ => rfl⟩⟩
theorem c11 : cBl (cS cnL N11 60 (defScope st11) 60) (defBody st11) = some b11 := by kernel_rfl
theorem s11 : FnScope N11 [("well" : Str), ("many" : Str)] (defScope st11) := C8.fnScope_by (by decide +kernel)
theorem ff11 : FF sp fnL 11 := ⟨⟨d11, [("well" : Str), ("many" : Str)], N11, 60, 60, ⟨2, 4, b11⟩, List.mem_of_getElem? (i := 11) rfl, rfl, rfl, rfl, s11, rfl, rfl, rfl, c11, fun _ _ _ _ _ _ us hl => match us, hl with | [_, _], _ => rfl⟩⟩
theorem c12 : cBl (cS cnL N12 60 (defScope st12) 60) (defBody st12) = some b12 := by kernel_rfl
theorem s12 : FnScope N12 [("well" : Str), ("taken" : Str)] (defScope st12) := C8.fnScope_by (by decide +kernel)
theorem ff12 : FF sp fnL 12 := ⟨⟨d12, [("well" : Str), ("taken" : Str)], N12, 60, 60, ⟨2, 9, b12⟩, List.mem_of_getElem? (i := 12) rfl, rfl, rfl, rfl, s12, rfl, rfl, rfl, c12, fun _ _ _ _ _ _ us hl => match us, hl with | [_, _], _ => rfl⟩⟩
theorem c13 : cBl (cS cnL N13 60 (defScope st13) 60) (defBody st13) = some b13 := by kernel_rfl
theorem s13 : FnScope N13 [("told" : Str), ("due" : Str)] (defScope st13) := C8.fnScope_by (by decide +kernel)
theorem ff13 : FF sp fnL 13 := ⟨⟨d13, [("told" : Str), ("due" : Str)], N13, 60, 60, ⟨2, 3, b13⟩, List.mem_of_getElem? (i := 13) rfl, rfl, rfl, rfl, s13, rfl, rfl, rfl, c13, fun _ _ _ _ _ _ us hl => match us, hl with | [_, _], _ => rfl⟩⟩
theorem c14 : cBl (cS cnL N14 60 (defScope st14) 60) (defBody st14) = some b14 := by kernel_rfl
theorem s14 : FnScope N14 [("cues" : Str), ("back" : Str), ("acts" : Str)] (defScope st14) := C8.fnScope_by (by decide +kernel)
theorem ff14 : FF sp fnL 14 := ⟨⟨d14, [("cues" : Str), ("back" : Str), ("acts" : Str)], N14, 60, 60, ⟨3, 3, b14⟩, List.mem_of_getElem? (i := 14) rfl, rfl, rfl, rfl, s14, rfl, rfl, rfl, c14, fun _ _ _ _ _ _ us hl => match us, hl with | [_, _, _], _ => rfl⟩⟩
theorem c15 : cBl (cS cnL N15 60 (defScope st15) 60) (defBody st15) = some b15 := by kernel_rfl
theorem s15 : FnScope N15 [("cues" : Str), ("back" : Str), ("acts" : Str)] (defScope st15) := C8.fnScope_by (by decide +kernel)
theorem ff15 : FF sp fnL 15 := ⟨⟨d15, [("cues" : Str), ("back" : Str), ("acts" : Str)], N15, 60, 60, ⟨3, 3, b15⟩, List.mem_of_getElem? (i := 15) rfl, rfl, rfl, rfl, s15, rfl, rfl, rfl, c15, fun _ _ _ _ _ _ us hl => match us, hl with | [_, _, _], _ => rfl⟩⟩
theorem c16 : cBl (cS cnL N16 60 (defScope st16) 60) (defBody st16) = some b16 := by kernel_rfl
theorem s16 : FnScope N16 [("rig" : Str), ("cues" : Str), ("place" : Str)] (defScope st16) := C8.fnScope_by (by decide +kernel)
theorem ff16 : FF sp fnL 16 := ⟨⟨d16, [("rig" : Str), ("cues" : Str), ("place" : Str)], N16, 60, 60, ⟨3, 7, b16⟩, List.mem_of_getElem? (i := 16) rfl, rfl, rfl, rfl, s16, rfl, rfl, rfl, c16, fun _ _ _ _ _ _ us hl => match us, hl with | [_, _, _], _ => rfl⟩⟩
theorem c17 : cBl (cS cnL N17 60 (defScope st17) 60) (defBody st17) = some b17 := by kernel_rfl
theorem s17 : FnScope N17 [("well" : Str), ("many" : Str)] (defScope st17) := C8.fnScope_by (by decide +kernel)
theorem ff17 : FF sp fnL 17 := ⟨⟨d17, [("well" : Str), ("many" : Str)], N17, 60, 60, ⟨2, 4, b17⟩, List.mem_of_getElem? (i := 17) rfl, rfl, rfl, rfl, s17, rfl, rfl, rfl, c17, fun _ _ _ _ _ _ us hl => match us, hl with | [_, _], _ => rfl⟩⟩
theorem c18 : cBl (cS cnL N18 60 (defScope st18) 60) (defBody st18) = some b18 := by kernel_rfl
theorem s18 : FnScope N18 [("well" : Str), ("many" : Str)] (defScope st18) := C8.fnScope_by (by decide +kernel)
theorem ff18 : FF sp fnL 18 := ⟨⟨d18, [("well" : Str), ("many" : Str)], N18, 60, 60, ⟨2, 3, b18⟩, List.mem_of_getElem? (i := 18) rfl, rfl, rfl, rfl, s18, rfl, rfl, rfl, c18, fun _ _ _ _ _ _ us hl => match us, hl with | [_, _], _ => rfl⟩⟩
theorem c19 : cBl (cS cnL N19 60 (defScope st19) 60) (defBody st19) = some b19 := by kernel_rfl
theorem s19 : FnScope N19 [("cues" : Str), ("back" : Str), ("acts" : Str)] (defScope st19) := C8.fnScope_by (by decide +kernel)
theorem ff19 : FF sp fnL 19 := ⟨⟨d19, [("cues" : Str), ("back" : Str), ("acts" : Str)], N19, 60, 60, ⟨3, 5, b19⟩, List.mem_of_getElem? (i := 19) rfl, rfl, rfl, rfl, s19, rfl, rfl, rfl, c19, fun _ _ _ _ _ _ us hl => match us, hl with | [_, _, _], _ => rfl⟩⟩
theorem c20 : cBl (cS cnL N20 60 (defScope st20) 60) (defBody st20) = some b20 := by kernel_rfl
theorem s20 : FnScope N20 [("cues" : Str), ("back" : Str), ("acts" : Str)] (defScope st20) := C8.fnScope_by (by decide +kernel)
theorem ff20 : FF sp fnL 20 := ⟨⟨d20, [("cues" : Str), ("back" : Str), ("acts" : Str)], N20, 60, 60, ⟨3, 3, b20⟩, List.mem_of_getElem? (i := 20) rfl, rfl, rfl, rfl, s20, rfl, rfl, rfl, c20, fun _ _ _ _ _ _ us hl => match us, hl with | [_, _, _], _ => rfl⟩⟩
theorem c21 : cBl (cS cnL N21 60 (defScope st21) 60) (defBody st21) = some b21 := by kernel_rfl
theorem s21 : FnScope N21 [("self" : Str), ("rig" : Str), ("cues" : Str)] (defScope st21) := C8.fnScope_by (by decide +kernel)
theorem ff21 : FF sp fnL 21 := ⟨⟨d21, [("self" : Str), ("rig" : Str), ("cues" : Str)], N21, 60, 60, ⟨3, 5, b21⟩, List.mem_of_getElem? (i := 21) rfl, rfl, rfl, rfl, s21, rfl, rfl, rfl, c21, fun _ _ _ _ _ _ us hl => match us, hl with | [_, _, _], _ => rfl⟩⟩
theorem c22 : cBl (cS cnL N22 60 (defScope st22) 60) (defBody st22) = some b22 := by kernel_rfl
theorem s22 : FnScope N22 [("self" : Str), ("channels" : Str), ("top" : Str)] (defScope st22) := C8.fnScope_by (by decide +kernel)
theorem ff22 : FF sp fnL 22 := ⟨⟨d22, [("self" : Str), ("channels" : Str), ("top" : Str)], N22, 60, 60, ⟨3, 3, b22⟩, List.mem_of_getElem? (i := 22) rfl, rfl, rfl, rfl, s22, rfl, rfl, rfl, c22, fun _ _ _ _ _ _ us hl => match us, hl with | [_, _, _], _ => rfl⟩⟩
theorem c23 : cBl (cS cnL N23 60 (defScope st23) 60) (defBody st23) = some b23 := by kernel_rfl
theorem s23 : FnScope N23 [("rig" : Str), ("acts" : Str)] (defScope st23) := C8.fnScope_by (by decide +kernel)
theorem ff23 : FF sp fnL 23 := ⟨⟨d23, [("rig" : Str), ("acts" : Str)], N23, 60, 60, ⟨2, 3, b23⟩, List.mem_of_getElem? (i := 23) rfl, rfl, rfl, rfl, s23, rfl, rfl, rfl, c23, fun _ _ _ _ _ _ us hl => match us, hl with | [_, _], _ => rfl⟩⟩
theorem c24 : cBl (cS cnL N24 60 (defScope st24) 60) (defBody st24) = some b24 := by kernel_rfl
theorem s24 : FnScope N24 [("value" : Str)] (defScope st24) := C8.fnScope_by (by decide +kernel)
theorem ff24 : FF sp fnL 24 := ⟨⟨d24, [("value" : Str)], N24, 60, 60, ⟨1, 1, b24⟩, List.mem_of_getElem? (i := 24) rfl, rfl, rfl, rfl, s24, rfl, rfl, rfl, c24, fun _ _ _ _ _ _ us hl => match us, hl with | [_], _ => rfl⟩⟩
theorem c25 : cBl (cS cnL N25 60 (defScope st25) 60) (defBody st25) = some b25 := by kernel_rfl
theorem s25 : FnScope N25 [("value" : Str)] (defScope st25) := C8.fnScope_by (by decide +kernel)
theorem ff25 : FF sp fnL 25 := ⟨⟨d25, [("value" : Str)], N25, 60, 60, ⟨1, 1, b25⟩, List.mem_of_getElem? (i := 25) rfl, rfl, rfl, rfl, s25, rfl, rfl, rfl, c25, fun _ _ _ _ _ _ us hl => match us, hl with | [_], _ => rfl⟩⟩
theorem c26 : cBl (cS cnL N26 60 (defScope st26) 60) (defBody st26) = some b26 := by kernel_rfl
theorem s26 : FnScope N26 [("self" : Str), ("cues" : Str), ("back" : Str)] (defScope st26) := C8.fnScope_by (by decide +kernel)
theorem ff26 : FF sp fnL 26 := ⟨⟨d26, [("self" : Str), ("cues" : Str), ("back" : Str)], N26, 60, 60, ⟨3, 5, b26⟩, List.mem_of_getElem? (i := 26) rfl, rfl, rfl, rfl, s26, rfl, rfl, rfl, c26, fun _ _ _ _ _ _ us hl => match us, hl with | [_, _, _], _ => rfl⟩⟩
theorem c27 : cBl (cS cnL N27 60 (defScope st27) 60) (defBody st27) = some b27 := by kernel_rfl
theorem s27 : FnScope N27 [("rig" : Str), ("cues" : Str)] (defScope st27) := C8.fnScope_by (by decide +kernel)
theorem ff27 : FF sp fnL 27 := ⟨⟨d27, [("rig" : Str), ("cues" : Str)], N27, 60, 60, ⟨2, 4, b27⟩, List.mem_of_getElem? (i := 27) rfl, rfl, rfl, rfl, s27, rfl, rfl, rfl, c27, fun _ _ _ _ _ _ us hl => match us, hl with | [_, _], _ => rfl⟩⟩
theorem c28 : cBl (cS cnL N28 60 (defScope st28) 60) (defBody st28) = some b28 := by kernel_rfl
theorem s28 : FnScope N28 [("rig" : Str), ("cues" : Str)] (defScope st28) := C8.fnScope_by (by decide +kernel)
theorem ff28 : FF sp fnL 28 := ⟨⟨d28, [("rig" : Str), ("cues" : Str)], N28, 60, 60, ⟨2, 3, b28⟩, List.mem_of_getElem? (i := 28) rfl, rfl, rfl, rfl, s28, rfl, rfl, rfl, c28, fun _ _ _ _ _ _ us hl => match us, hl with | [_, _], _ => rfl⟩⟩
theorem c29 : cBl (cS cnL N29 60 (defScope st29) 60) (defBody st29) = some b29 := by kernel_rfl
theorem s29 : FnScope N29 [("value" : Str)] (defScope st29) := C8.fnScope_by (by decide +kernel)
theorem ff29 : FF sp fnL 29 := ⟨⟨d29, [("value" : Str)], N29, 60, 60, ⟨1, 1, b29⟩, List.mem_of_getElem? (i := 29) rfl, rfl, rfl, rfl, s29, rfl, rfl, rfl, c29, fun _ _ _ _ _ _ us hl => match us, hl with | [_], _ => rfl⟩⟩
theorem c30 : cBl (cS cnL N30 60 (defScope st30) 60) (defBody st30) = some b30 := by kernel_rfl
theorem s30 : FnScope N30 [("channels" : Str)] (defScope st30) := C8.fnScope_by (by decide +kernel)
theorem ff30 : FF sp fnL 30 := ⟨⟨d30, [("channels" : Str)], N30, 60, 60, ⟨1, 2, b30⟩, List.mem_of_getElem? (i := 30) rfl, rfl, rfl, rfl, s30, rfl, rfl, rfl, c30, fun _ _ _ _ _ _ us hl => match us, hl with | [_], _ => rfl⟩⟩
theorem c31 : cBl (cS cnL N31 60 (defScope st31) 60) (defBody st31) = some b31 := by kernel_rfl
theorem s31 : FnScope N31 [("value" : Str), ("low" : Str), ("high" : Str)] (defScope st31) := C8.fnScope_by (by decide +kernel)
theorem ff31 : FF sp fnL 31 := ⟨⟨d31, [("value" : Str), ("low" : Str), ("high" : Str)], N31, 60, 60, ⟨3, 3, b31⟩, List.mem_of_getElem? (i := 31) rfl, rfl, rfl, rfl, s31, rfl, rfl, rfl, c31, fun _ _ _ _ _ _ us hl => match us, hl with | [_, _, _], _ => rfl⟩⟩
theorem c32 : cBl (cS cnL N32 60 (defScope st32) 60) (defBody st32) = some b32 := by kernel_rfl
theorem s32 : FnScope N32 [("rig" : Str), ("value" : Str)] (defScope st32) := C8.fnScope_by (by decide +kernel)
theorem ff32 : FF sp fnL 32 := ⟨⟨d32, [("rig" : Str), ("value" : Str)], N32, 60, 60, ⟨2, 4, b32⟩, List.mem_of_getElem? (i := 32) rfl, rfl, rfl, rfl, s32, rfl, rfl, rfl, c32, fun _ _ _ _ _ _ us hl => match us, hl with | [_, _], _ => rfl⟩⟩
theorem c33 : cBl (cS cnL N33 60 (defScope st33) 60) (defBody st33) = some b33 := by kernel_rfl
theorem s33 : FnScope N33 [("rig" : Str), ("means" : Str), ("cue" : Str)] (defScope st33) := C8.fnScope_by (by decide +kernel)
theorem ff33 : FF sp fnL 33 := ⟨⟨d33, [("rig" : Str), ("means" : Str), ("cue" : Str)], N33, 60, 60, ⟨3, 6, b33⟩, List.mem_of_getElem? (i := 33) rfl, rfl, rfl, rfl, s33, rfl, rfl, rfl, c33, fun _ _ _ _ _ _ us hl => match us, hl with | [_, _, _], _ => rfl⟩⟩
theorem c34 : cBl (cS cnL N34 60 (defScope st34) 60) (defBody st34) = some b34 := by kernel_rfl
theorem s34 : FnScope N34 [("rig" : Str), ("value" : Str)] (defScope st34) := C8.fnScope_by (by decide +kernel)
theorem ff34 : FF sp fnL 34 := ⟨⟨d34, [("rig" : Str), ("value" : Str)], N34, 60, 60, ⟨2, 4, b34⟩, List.mem_of_getElem? (i := 34) rfl, rfl, rfl, rfl, s34, rfl, rfl, rfl, c34, fun _ _ _ _ _ _ us hl => match us, hl with | [_, _], _ => rfl⟩⟩
theorem c35 : cBl (cS cnL N35 60 (defScope st35) 60) (defBody st35) = some b35 := by kernel_rfl
theorem s35 : FnScope N35 [("values" : Str)] (defScope st35) := C8.fnScope_by (by decide +kernel)
theorem ff35 : FF sp fnL 35 := ⟨⟨d35, [("values" : Str)], N35, 60, 60, ⟨1, 3, b35⟩, List.mem_of_getElem? (i := 35) rfl, rfl, rfl, rfl, s35, rfl, rfl, rfl, c35, fun _ _ _ _ _ _ us hl => match us, hl with | [_], _ => rfl⟩⟩
theorem c36 : cBl (cS cnL N36 60 (defScope st36) 60) (defBody st36) = some b36 := by kernel_rfl
theorem s36 : FnScope N36 [("value" : Str), ("low" : Str), ("high" : Str)] (defScope st36) := C8.fnScope_by (by decide +kernel)
theorem ff36 : FF sp fnL 36 := ⟨⟨d36, [("value" : Str), ("low" : Str), ("high" : Str)], N36, 60, 60, ⟨3, 3, b36⟩, List.mem_of_getElem? (i := 36) rfl, rfl, rfl, rfl, s36, rfl, rfl, rfl, c36, fun _ _ _ _ _ _ us hl => match us, hl with | [_, _, _], _ => rfl⟩⟩
theorem c37 : cBl (cS cnL N37 60 (defScope st37) 60) (defBody st37) = some b37 := by kernel_rfl
theorem s37 : FnScope N37 [("rig" : Str), ("value" : Str)] (defScope st37) := C8.fnScope_by (by decide +kernel)
theorem ff37 : FF sp fnL 37 := ⟨⟨d37, [("rig" : Str), ("value" : Str)], N37, 60, 60, ⟨2, 2, b37⟩, List.mem_of_getElem? (i := 37) rfl, rfl, rfl, rfl, s37, rfl, rfl, rfl, c37, fun _ _ _ _ _ _ us hl => match us, hl with | [_, _], _ => rfl⟩⟩
theorem c38 : cBl (cS cnL N38 60 (defScope st38) 60) (defBody st38) = some b38 := by kernel_rfl
theorem s38 : FnScope N38 [("rig" : Str), ("value" : Str)] (defScope st38) := C8.fnScope_by (by decide +kernel)
theorem ff38 : FF sp fnL 38 := ⟨⟨d38, [("rig" : Str), ("value" : Str)], N38, 60, 60, ⟨2, 2, b38⟩, List.mem_of_getElem? (i := 38) rfl, rfl, rfl, rfl, s38, rfl, rfl, rfl, c38, fun _ _ _ _ _ _ us hl => match us, hl with | [_, _], _ => rfl⟩⟩
theorem c39 : cBl (cS cnL N39 60 (defScope st39) 60) (defBody st39) = some b39 := by kernel_rfl
theorem s39 : FnScope N39 [("value" : Str)] (defScope st39) := C8.fnScope_by (by decide +kernel)
theorem ff39 : FF sp fnL 39 := ⟨⟨d39, [("value" : Str)], N39, 60, 60, ⟨1, 1, b39⟩, List.mem_of_getElem? (i := 39) rfl, rfl, rfl, rfl, s39, rfl, rfl, rfl, c39, fun _ _ _ _ _ _ us hl => match us, hl with | [_], _ => rfl⟩⟩
theorem c40 : cBl (cS cnL N40 60 (defScope st40) 60) (defBody st40) = some b40 := by kernel_rfl
theorem s40 : FnScope N40 [("value" : Str)] (defScope st40) := C8.fnScope_by (by decide +kernel)
theorem ff40 : FF sp fnL 40 := ⟨⟨d40, [("value" : Str)], N40, 60, 60, ⟨1, 1, b40⟩, List.mem_of_getElem? (i := 40) rfl, rfl, rfl, rfl, s40, rfl, rfl, rfl, c40, fun _ _ _ _ _ _ us hl => match us, hl with | [_], _ => rfl⟩⟩
theorem c41 : cBl (cS cnL N41 60 (defScope st41) 60) (defBody st41) = some b41 := by kernel_rfl
theorem s41 : FnScope N41 [("value" : Str)] (defScope st41) := C8.fnScope_by (by decide +kernel)
theorem ff41 : FF sp fnL 41 := ⟨⟨d41, [("value" : Str)], N41, 60, 60, ⟨1, 1, b41⟩, List.mem_of_getElem? (i := 41) rfl, rfl, rfl, rfl, s41, rfl, rfl, rfl, c41, fun _ _ _ _ _ _ us hl => match us, hl with | [_], _ => rfl⟩⟩
theorem c42 : cBl (cS cnL N42 60 (defScope st42) 60) (defBody st42) = some b42 := by kernel_rfl
theorem s42 : FnScope N42 [("value" : Str), ("known" : Str)] (defScope st42) := C8.fnScope_by (by decide +kernel)
theorem ff42 : FF sp fnL 42 := ⟨⟨d42, [("value" : Str), ("known" : Str)], N42, 60, 60, ⟨2, 2, b42⟩, List.mem_of_getElem? (i := 42) rfl, rfl, rfl, rfl, s42, rfl, rfl, rfl, c42, fun _ _ _ _ _ _ us hl => match us, hl with | [_, _], _ => rfl⟩⟩
theorem c43 : cBl (cS cnL N43 60 (defScope st43) 60) (defBody st43) = some b43 := by kernel_rfl
theorem s43 : FnScope N43 [("rig" : Str), ("value" : Str)] (defScope st43) := C8.fnScope_by (by decide +kernel)
theorem ff43 : FF sp fnL 43 := ⟨⟨d43, [("rig" : Str), ("value" : Str)], N43, 60, 60, ⟨2, 4, b43⟩, List.mem_of_getElem? (i := 43) rfl, rfl, rfl, rfl, s43, rfl, rfl, rfl, c43, fun _ _ _ _ _ _ us hl => match us, hl with | [_, _], _ => rfl⟩⟩
theorem c44 : cBl (cS cnL N44 60 (defScope st44) 60) (defBody st44) = some b44 := by kernel_rfl
theorem s44 : FnScope N44 [("value" : Str)] (defScope st44) := C8.fnScope_by (by decide +kernel)
theorem ff44 : FF sp fnL 44 := ⟨⟨d44, [("value" : Str)], N44, 60, 60, ⟨1, 1, b44⟩, List.mem_of_getElem? (i := 44) rfl, rfl, rfl, rfl, s44, rfl, rfl, rfl, c44, fun _ _ _ _ _ _ us hl => match us, hl with | [_], _ => rfl⟩⟩
theorem c45 : cBl (cS cnL N45 60 (defScope st45) 60) (defBody st45) = some b45 := by kernel_rfl
theorem s45 : FnScope N45 [("value" : Str)] (defScope st45) := C8.fnScope_by (by decide +kernel)
theorem ff45 : FF sp fnL 45 := ⟨⟨d45, [("value" : Str)], N45, 60, 60, ⟨1, 1, b45⟩, List.mem_of_getElem? (i := 45) rfl, rfl, rfl, rfl, s45, rfl, rfl, rfl, c45, fun _ _ _ _ _ _ us hl => match us, hl with | [_], _ => rfl⟩⟩
theorem c46 : cBl (cS cnL N46 60 (defScope st46) 60) (defBody st46) = some b46 := by kernel_rfl
theorem s46 : FnScope N46 [("value" : Str)] (defScope st46) := C8.fnScope_by (by decide +kernel)
theorem ff46 : FF sp fnL 46 := ⟨⟨d46, [("value" : Str)], N46, 60, 60, ⟨1, 1, b46⟩, List.mem_of_getElem? (i := 46) rfl, rfl, rfl, rfl, s46, rfl, rfl, rfl, c46, fun _ _ _ _ _ _ us hl => match us, hl with | [_], _ => rfl⟩⟩
theorem c47 : cBl (cS cnL N47 60 (defScope st47) 60) (defBody st47) = some b47 := by kernel_rfl
theorem s47 : FnScope N47 [("value" : Str)] (defScope st47) := C8.fnScope_by (by decide +kernel)
theorem ff47 : FF sp fnL 47 := ⟨⟨d47, [("value" : Str)], N47, 60, 60, ⟨1, 2, b47⟩, List.mem_of_getElem? (i := 47) rfl, rfl, rfl, rfl, s47, rfl, rfl, rfl, c47, fun _ _ _ _ _ _ us hl => match us, hl with | [_], _ => rfl⟩⟩
theorem c48 : cBl (cS cnL N48 60 (defScope st48) 60) (defBody st48) = some b48 := by kernel_rfl
theorem s48 : FnScope N48 [("rig" : Str), ("value" : Str)] (defScope st48) := C8.fnScope_by (by decide +kernel)
theorem ff48 : FF sp fnL 48 := ⟨⟨d48, [("rig" : Str), ("value" : Str)], N48, 60, 60, ⟨2, 2, b48⟩, List.mem_of_getElem? (i := 48) rfl, rfl, rfl, rfl, s48, rfl, rfl, rfl, c48, fun _ _ _ _ _ _ us hl => match us, hl with | [_, _], _ => rfl⟩⟩
theorem c49 : cBl (cS cnL N49 60 (defScope st49) 60) (defBody st49) = some b49 := by kernel_rfl
theorem s49 : FnScope N49 [("rig" : Str), ("value" : Str)] (defScope st49) := C8.fnScope_by (by decide +kernel)
theorem ff49 : FF sp fnL 49 := ⟨⟨d49, [("rig" : Str), ("value" : Str)], N49, 60, 60, ⟨2, 2, b49⟩, List.mem_of_getElem? (i := 49) rfl, rfl, rfl, rfl, s49, rfl, rfl, rfl, c49, fun _ _ _ _ _ _ us hl => match us, hl with | [_, _], _ => rfl⟩⟩
theorem c50 : cBl (cS cnL N50 60 (defScope st50) 60) (defBody st50) = some b50 := by kernel_rfl
theorem s50 : FnScope N50 [("self" : Str), ("stage" : Str)] (defScope st50) := C8.fnScope_by (by decide +kernel)
theorem ff50 : FF sp fnL 50 := ⟨⟨d50, [("self" : Str), ("stage" : Str)], N50, 60, 60, ⟨2, 6, b50⟩, List.mem_of_getElem? (i := 50) rfl, rfl, rfl, rfl, s50, rfl, rfl, rfl, c50, fun _ _ _ _ _ _ us hl => match us, hl with | [_, _], _ => rfl⟩⟩
theorem c51 : cBl (cS cnL N51 60 (defScope st51) 60) (defBody st51) = some b51 := by kernel_rfl
theorem s51 : FnScope N51 [("self" : Str), ("cue" : Str)] (defScope st51) := C8.fnScope_by (by decide +kernel)
theorem ff51 : FF sp fnL 51 := ⟨⟨d51, [("self" : Str), ("cue" : Str)], N51, 60, 60, ⟨2, 6, b51⟩, List.mem_of_getElem? (i := 51) rfl, rfl, rfl, rfl, s51, rfl, rfl, rfl, c51, fun _ _ _ _ _ _ us hl => match us, hl with | [_, _], _ => rfl⟩⟩
theorem c52 : cBl (cS cnL N52 60 (defScope st52) 60) (defBody st52) = some b52 := by kernel_rfl
theorem s52 : FnScope N52 [("self" : Str), ("acts" : Str)] (defScope st52) := C8.fnScope_by (by decide +kernel)
theorem ff52 : FF sp fnL 52 := ⟨⟨d52, [("self" : Str), ("acts" : Str)], N52, 60, 60, ⟨2, 4, b52⟩, List.mem_of_getElem? (i := 52) rfl, rfl, rfl, rfl, s52, rfl, rfl, rfl, c52, fun _ _ _ _ _ _ us hl => match us, hl with | [_, _], _ => rfl⟩⟩
theorem c53 : cBl (cS cnL N53 60 (defScope st53) 60) (defBody st53) = some b53 := by kernel_rfl
theorem s53 : FnScope N53 [("run" : Str)] (defScope st53) := C8.fnScope_by (by decide +kernel)
theorem ff53 : FF sp fnL 53 := ⟨⟨d53, [("run" : Str)], N53, 60, 60, ⟨1, 5, b53⟩, List.mem_of_getElem? (i := 53) rfl, rfl, rfl, rfl, s53, rfl, rfl, rfl, c53, fun _ _ _ _ _ _ us hl => match us, hl with | [_], _ => rfl⟩⟩
theorem c54 : cBl (cS cnL N54 60 (defScope st54) 60) (defBody st54) = some b54 := by kernel_rfl
theorem s54 : FnScope N54 [("self" : Str), ("stage" : Str), ("act" : Str)] (defScope st54) := C8.fnScope_by (by decide +kernel)
theorem ff54 : FF sp fnL 54 := ⟨⟨d54, [("self" : Str), ("stage" : Str), ("act" : Str)], N54, 60, 60, ⟨3, 10, b54⟩, List.mem_of_getElem? (i := 54) rfl, rfl, rfl, rfl, s54, rfl, rfl, rfl, c54, fun _ _ _ _ _ _ us hl => match us, hl with | [_, _, _], _ => rfl⟩⟩
theorem c55 : cBl (cS cnL N55 60 (defScope st55) 60) (defBody st55) = some b55 := by kernel_rfl
theorem s55 : FnScope N55 [("self" : Str)] (defScope st55) := C8.fnScope_by (by decide +kernel)
theorem ff55 : FF sp fnL 55 := ⟨⟨d55, [("self" : Str)], N55, 60, 60, ⟨1, 1, b55⟩, List.mem_of_getElem? (i := 55) rfl, rfl, rfl, rfl, s55, rfl, rfl, rfl, c55, fun _ _ _ _ _ _ us hl => match us, hl with | [_], _ => rfl⟩⟩
theorem c56 : cBl (cS cnL N56 60 (defScope st56) 60) (defBody st56) = some b56 := by kernel_rfl
theorem s56 : FnScope N56 [("held" : Str), ("act" : Str)] (defScope st56) := C8.fnScope_by (by decide +kernel)
theorem ff56 : FF sp fnL 56 := ⟨⟨d56, [("held" : Str), ("act" : Str)], N56, 60, 60, ⟨2, 5, b56⟩, List.mem_of_getElem? (i := 56) rfl, rfl, rfl, rfl, s56, rfl, rfl, rfl, c56, fun _ _ _ _ _ _ us hl => match us, hl with | [_, _], _ => rfl⟩⟩
theorem c57 : cBl (cS cnL N57 60 (defScope st57) 60) (defBody st57) = some b57 := by kernel_rfl
theorem s57 : FnScope N57 [("self" : Str), ("place" : Str), ("due" : Str), ("act" : Str)] (defScope st57) := C8.fnScope_by (by decide +kernel)
theorem ff57 : FF sp fnL 57 := ⟨⟨d57, [("self" : Str), ("place" : Str), ("due" : Str), ("act" : Str)], N57, 60, 60, ⟨4, 5, b57⟩, List.mem_of_getElem? (i := 57) rfl, rfl, rfl, rfl, s57, rfl, rfl, rfl, c57, fun _ _ _ _ _ _ us hl => match us, hl with | [_, _, _, _], _ => rfl⟩⟩
theorem c58 : cBl (cS cnL N58 60 (defScope st58) 60) (defBody st58) = some b58 := by kernel_rfl
theorem s58 : FnScope N58 [("self" : Str), ("at" : Str), ("run" : Str), ("act" : Str), ("place" : Str), ("sending" : Str)] (defScope st58) := C8.fnScope_by (by decide +kernel)
theorem ff58 : FF sp fnL 58 := ⟨⟨d58, [("self" : Str), ("at" : Str), ("run" : Str), ("act" : Str), ("place" : Str), ("sending" : Str)], N58, 60, 60, ⟨6, 9, b58⟩, List.mem_of_getElem? (i := 58) rfl, rfl, rfl, rfl, s58, rfl, rfl, rfl, c58, fun _ _ _ _ _ _ us hl => match us, hl with | [_, _, _, _, _, _], _ => rfl⟩⟩
theorem c59 : cBl (cS cnL N59 60 (defScope st59) 60) (defBody st59) = some b59 := by kernel_rfl
theorem s59 : FnScope N59 [("run" : Str), ("level" : Str), ("long" : Str)] (defScope st59) := C8.fnScope_by (by decide +kernel)
theorem ff59 : FF sp fnL 59 := ⟨⟨d59, [("run" : Str), ("level" : Str), ("long" : Str)], N59, 60, 60, ⟨3, 4, b59⟩, List.mem_of_getElem? (i := 59) rfl, rfl, rfl, rfl, s59, rfl, rfl, rfl, c59, fun _ _ _ _ _ _ us hl => match us, hl with | [_, _, _], _ => rfl⟩⟩
theorem c60 : cBl (cS cnL N60 60 (defScope st60) 60) (defBody st60) = some b60 := by kernel_rfl
theorem s60 : FnScope N60 [("run" : Str)] (defScope st60) := C8.fnScope_by (by decide +kernel)
theorem ff60 : FF sp fnL 60 := ⟨⟨d60, [("run" : Str)], N60, 60, 60, ⟨1, 5, b60⟩, List.mem_of_getElem? (i := 60) rfl, rfl, rfl, rfl, s60, rfl, rfl, rfl, c60, fun _ _ _ _ _ _ us hl => match us, hl with | [_], _ => rfl⟩⟩
theorem c61 : cBl (cS cnL N61 60 (defScope st61) 60) (defBody st61) = some b61 := by kernel_rfl
theorem s61 : FnScope N61 [("level" : Str)] (defScope st61) := C8.fnScope_by (by decide +kernel)
theorem ff61 : FF sp fnL 61 := ⟨⟨d61, [("level" : Str)], N61, 60, 60, ⟨1, 1, b61⟩, List.mem_of_getElem? (i := 61) rfl, rfl, rfl, rfl, s61, rfl, rfl, rfl, c61, fun _ _ _ _ _ _ us hl => match us, hl with | [_], _ => rfl⟩⟩
theorem c62 : cBl (cS cnL N62 60 (defScope st62) 60) (defBody st62) = some b62 := by kernel_rfl
theorem s62 : FnScope N62 [("self" : Str), ("place" : Str), ("due" : Str), ("number" : Str)] (defScope st62) := C8.fnScope_by (by decide +kernel)
theorem ff62 : FF sp fnL 62 := ⟨⟨d62, [("self" : Str), ("place" : Str), ("due" : Str), ("number" : Str)], N62, 60, 60, ⟨4, 5, b62⟩, List.mem_of_getElem? (i := 62) rfl, rfl, rfl, rfl, s62, rfl, rfl, rfl, c62, fun _ _ _ _ _ _ us hl => match us, hl with | [_, _, _, _], _ => rfl⟩⟩
theorem c63 : cBl (cS cnL N63 60 (defScope st63) 60) (defBody st63) = some b63 := by kernel_rfl
theorem s63 : FnScope N63 [("self" : Str), ("place" : Str), ("due" : Str)] (defScope st63) := C8.fnScope_by (by decide +kernel)
theorem ff63 : FF sp fnL 63 := ⟨⟨d63, [("self" : Str), ("place" : Str), ("due" : Str)], N63, 60, 60, ⟨3, 3, b63⟩, List.mem_of_getElem? (i := 63) rfl, rfl, rfl, rfl, s63, rfl, rfl, rfl, c63, fun _ _ _ _ _ _ us hl => match us, hl with | [_, _, _], _ => rfl⟩⟩
theorem c64 : cBl (cS cnL N64 60 (defScope st64) 60) (defBody st64) = some b64 := by kernel_rfl
theorem s64 : FnScope N64 [("self" : Str), ("place" : Str)] (defScope st64) := C8.fnScope_by (by decide +kernel)
theorem ff64 : FF sp fnL 64 := ⟨⟨d64, [("self" : Str), ("place" : Str)], N64, 60, 60, ⟨2, 2, b64⟩, List.mem_of_getElem? (i := 64) rfl, rfl, rfl, rfl, s64, rfl, rfl, rfl, c64, fun _ _ _ _ _ _ us hl => match us, hl with | [_, _], _ => rfl⟩⟩
theorem c65 : cBl (cS cnL N65 60 (defScope st65) 60) (defBody st65) = some b65 := by kernel_rfl
theorem s65 : FnScope N65 [("self" : Str), ("place" : Str)] (defScope st65) := C8.fnScope_by (by decide +kernel)
theorem ff65 : FF sp fnL 65 := ⟨⟨d65, [("self" : Str), ("place" : Str)], N65, 60, 60, ⟨2, 3, b65⟩, List.mem_of_getElem? (i := 65) rfl, rfl, rfl, rfl, s65, rfl, rfl, rfl, c65, fun _ _ _ _ _ _ us hl => match us, hl with | [_, _], _ => rfl⟩⟩
theorem ffs : ∀ f p, sp.fat[f]? = some p → FF sp fnL f
  | 0, _, _ => ff0
  | 1, _, _ => ff1
  | 2, _, _ => ff2
  | 3, _, _ => ff3
  | 4, _, _ => ff4
  | 5, _, _ => ff5
  | 6, _, _ => ff6
  | 7, _, _ => ff7
  | 8, _, _ => ff8
  | 9, _, _ => ff9
  | 10, _, _ => ff10
  | 11, _, _ => ff11
  | 12, _, _ => ff12
  | 13, _, _ => ff13
  | 14, _, _ => ff14
  | 15, _, _ => ff15
  | 16, _, _ => ff16
  | 17, _, _ => ff17
  | 18, _, _ => ff18
  | 19, _, _ => ff19
  | 20, _, _ => ff20
  | 21, _, _ => ff21
  | 22, _, _ => ff22
  | 23, _, _ => ff23
  | 24, _, _ => ff24
  | 25, _, _ => ff25
  | 26, _, _ => ff26
  | 27, _, _ => ff27
  | 28, _, _ => ff28
  | 29, _, _ => ff29
  | 30, _, _ => ff30
  | 31, _, _ => ff31
  | 32, _, _ => ff32
  | 33, _, _ => ff33
  | 34, _, _ => ff34
  | 35, _, _ => ff35
  | 36, _, _ => ff36
  | 37, _, _ => ff37
  | 38, _, _ => ff38
  | 39, _, _ => ff39
  | 40, _, _ => ff40
  | 41, _, _ => ff41
  | 42, _, _ => ff42
  | 43, _, _ => ff43
  | 44, _, _ => ff44
  | 45, _, _ => ff45
  | 46, _, _ => ff46
  | 47, _, _ => ff47
  | 48, _, _ => ff48
  | 49, _, _ => ff49
  | 50, _, _ => ff50
  | 51, _, _ => ff51
  | 52, _, _ => ff52
  | 53, _, _ => ff53
  | 54, _, _ => ff54
  | 55, _, _ => ff55
  | 56, _, _ => ff56
  | 57, _, _ => ff57
  | 58, _, _ => ff58
  | 59, _, _ => ff59
  | 60, _, _ => ff60
  | 61, _, _ => ff61
  | 62, _, _ => ff62
  | 63, _, _ => ff63
  | 64, _, _ => ff64
  | 65, _, _ => ff65
  | n + 66, p, h => by cases h
theorem fl : FL sp fnL 0 := ⟨⟨d0, N0, 60, 60, ⟨1, 2, b0⟩, List.mem_of_getElem? (i := 0) rfl, rfl, rfl, rfl, s0, rfl, rfl, rfl, c0, fun _ _ _ _ _ _ us hl => match us, hl with | [_], _ => rfl⟩⟩
theorem spOk : sp.okB = true := by decide +kernel
theorem C_CueList : D.cls[0]? = some ⟨21, [(Sl [114, 105, 103]), (Sl [99, 117, 101, 115]), (Sl [112, 97, 114, 116, 115]), (Sl [109, 101, 97, 110, 115]), (Sl [112, 108, 97, 99, 101, 115])], true, []⟩ := rfl
abbrev k_CueList : Nat := 0
theorem C_Rig : D.cls[1]? = some ⟨22, [(Sl [99, 104, 97, 110, 110, 101, 108, 115]), (Sl [116, 111, 112]), (Sl [112, 97, 114, 116, 115])], true, []⟩ := rfl
abbrev k_Rig : Nat := 1
theorem C_Score : D.cls[2]? = some ⟨26, [(Sl [99, 117, 101, 115]), (Sl [98, 97, 99, 107]), (Sl [114, 111, 119, 115]), (Sl [99, 104, 97, 110, 110, 101, 108, 115]), (Sl [109, 101, 97, 110, 115]), (Sl [112, 108, 97, 99, 101, 115]), (Sl [101, 118, 101, 114, 121, 98, 111, 100, 121]), (Sl [115, 101, 110, 100, 101, 114, 115])], true, [((Sl [108, 111, 111, 107]), 50), ((Sl [115, 101, 110, 100, 101, 114, 115, 95, 111, 102]), 51), ((Sl [115, 116, 97, 103, 101, 115]), 52), ((Sl [98, 101, 104, 105, 110, 100]), 54), ((Sl [102, 105, 114, 115, 116]), 55), ((Sl [109, 111, 118, 101, 100]), 57), ((Sl [114, 117, 110, 95, 98, 101, 104, 105, 110, 100]), 58), ((Sl [106, 117, 109, 112, 105, 110, 103]), 62), ((Sl [112, 97, 115, 115, 105, 110, 103]), 63), ((Sl [115, 116, 97, 114, 116, 105, 110, 103]), 64), ((Sl [102, 111, 108, 108, 111, 119, 95, 111, 102]), 65)]⟩ := rfl
abbrev k_Score : Nat := 2
theorem K_SIZES : D.kds[0]? = some [((Sl [103, 111]), .int 1), ((Sl [98, 97, 99, 107]), .int 1), ((Sl [106, 117, 109, 112]), .int 2), ((Sl [104, 111, 108, 100]), .int 3), ((Sl [102, 114, 101, 101]), .int 2), ((Sl [119, 97, 105, 116]), .int 1)] := rfl
theorem K_WORDS : D.kds[1]? = some [((Sl [97, 108, 108]), .bl true), ((Sl [98, 97, 99, 107]), .bl true), ((Sl [98, 108, 97, 99, 107]), .bl true), ((Sl [99, 117, 101]), .bl true), ((Sl [99, 117, 116]), .bl true), ((Sl [100, 114, 111, 112]), .bl true), ((Sl [101, 100, 105, 116]), .bl true), ((Sl [102, 97, 100, 101]), .bl true), ((Sl [102, 111, 108, 108, 111, 119]), .bl true), ((Sl [102, 114, 101, 101]), .bl true), ((Sl [103, 111]), .bl true), ((Sl [104, 111, 108, 100]), .bl true), ((Sl [105, 110]), .bl true), ((Sl [106, 117, 109, 112]), .bl true), ((Sl [110, 111]), .bl true), ((Sl [110, 111, 110, 101]), .bl true), ((Sl [110, 111, 119]), .bl true), ((Sl [112, 117, 116]), .bl true), ((Sl [115, 110, 97, 112]), .bl true), ((Sl [116, 111]), .bl true), ((Sl [117, 110, 100, 111]), .bl true), ((Sl [119, 97, 105, 116]), .bl true), ((Sl [119, 104, 111, 108, 101]), .bl true), ((Sl [121, 101, 115]), .bl true)] := rfl
theorem F_law (k : Nat) (as : List Eng.Arg) : Fk D (k + 1) i_law as = runFn D (Fk D k) ⟨1, 2, B_law⟩ as := rfl
theorem F__law_round (k : Nat) (as : List Eng.Arg) : Fk D (k + 1) i__law_round as = runFn D (Fk D k) ⟨1, 8, B__law_round⟩ as := rfl
theorem F__law_well (k : Nat) (as : List Eng.Arg) : Fk D (k + 1) i__law_well as = runFn D (Fk D k) ⟨2, 5, B__law_well⟩ as := rfl
theorem F__law_aged (k : Nat) (as : List Eng.Arg) : Fk D (k + 1) i__law_aged as = runFn D (Fk D k) ⟨1, 7, B__law_aged⟩ as := rfl
theorem F__law_backs_right (k : Nat) (as : List Eng.Arg) : Fk D (k + 1) i__law_backs_right as = runFn D (Fk D k) ⟨6, 16, B__law_backs_right⟩ as := rfl
theorem F__law_cues (k : Nat) (as : List Eng.Arg) : Fk D (k + 1) i__law_cues as = runFn D (Fk D k) ⟨3, 10, B__law_cues⟩ as := rfl
theorem F__law_first_right (k : Nat) (as : List Eng.Arg) : Fk D (k + 1) i__law_first_right as = runFn D (Fk D k) ⟨3, 6, B__law_first_right⟩ as := rfl
theorem F__law_list (k : Nat) (as : List Eng.Arg) : Fk D (k + 1) i__law_list as = runFn D (Fk D k) ⟨2, 2, B__law_list⟩ as := rfl
theorem F__law_once_right (k : Nat) (as : List Eng.Arg) : Fk D (k + 1) i__law_once_right as = runFn D (Fk D k) ⟨6, 17, B__law_once_right⟩ as := rfl
theorem F__law_pick (k : Nat) (as : List Eng.Arg) : Fk D (k + 1) i__law_pick as = runFn D (Fk D k) ⟨2, 2, B__law_pick⟩ as := rfl
theorem F__law_rig (k : Nat) (as : List Eng.Arg) : Fk D (k + 1) i__law_rig as = runFn D (Fk D k) ⟨2, 2, B__law_rig⟩ as := rfl
theorem F__law_take (k : Nat) (as : List Eng.Arg) : Fk D (k + 1) i__law_take as = runFn D (Fk D k) ⟨2, 4, B__law_take⟩ as := rfl
theorem F__law_name (k : Nat) (as : List Eng.Arg) : Fk D (k + 1) i__law_name as = runFn D (Fk D k) ⟨2, 9, B__law_name⟩ as := rfl
theorem F__law_same (k : Nat) (as : List Eng.Arg) : Fk D (k + 1) i__law_same as = runFn D (Fk D k) ⟨2, 3, B__law_same⟩ as := rfl
theorem F_look_of (k : Nat) (as : List Eng.Arg) : Fk D (k + 1) i_look_of as = runFn D (Fk D k) ⟨3, 3, B_look_of⟩ as := rfl
theorem F_stage_behind (k : Nat) (as : List Eng.Arg) : Fk D (k + 1) i_stage_behind as = runFn D (Fk D k) ⟨3, 3, B_stage_behind⟩ as := rfl
theorem F__law_means (k : Nat) (as : List Eng.Arg) : Fk D (k + 1) i__law_means as = runFn D (Fk D k) ⟨3, 7, B__law_means⟩ as := rfl
theorem F__law_names (k : Nat) (as : List Eng.Arg) : Fk D (k + 1) i__law_names as = runFn D (Fk D k) ⟨2, 4, B__law_names⟩ as := rfl
theorem F__law_letters (k : Nat) (as : List Eng.Arg) : Fk D (k + 1) i__law_letters as = runFn D (Fk D k) ⟨2, 3, B__law_letters⟩ as := rfl
theorem F_looks_of (k : Nat) (as : List Eng.Arg) : Fk D (k + 1) i_looks_of as = runFn D (Fk D k) ⟨3, 5, B_looks_of⟩ as := rfl
theorem F_need_acted (k : Nat) (as : List Eng.Arg) : Fk D (k + 1) i_need_acted as = runFn D (Fk D k) ⟨3, 3, B_need_acted⟩ as := rfl
theorem F_CueList___init__ (k : Nat) (as : List Eng.Arg) : Fk D (k + 1) i_CueList___init__ as = runFn D (Fk D k) ⟨3, 5, B_CueList___init__⟩ as := rfl
theorem F_Rig___init__ (k : Nat) (as : List Eng.Arg) : Fk D (k + 1) i_Rig___init__ as = runFn D (Fk D k) ⟨3, 3, B_Rig___init__⟩ as := rfl
theorem F_need_acts (k : Nat) (as : List Eng.Arg) : Fk D (k + 1) i_need_acts as = runFn D (Fk D k) ⟨2, 3, B_need_acts⟩ as := rfl
theorem F_need_back (k : Nat) (as : List Eng.Arg) : Fk D (k + 1) i_need_back as = runFn D (Fk D k) ⟨1, 1, B_need_back⟩ as := rfl
theorem F_need_list (k : Nat) (as : List Eng.Arg) : Fk D (k + 1) i_need_list as = runFn D (Fk D k) ⟨1, 1, B_need_list⟩ as := rfl
theorem F_Score___init__ (k : Nat) (as : List Eng.Arg) : Fk D (k + 1) i_Score___init__ as = runFn D (Fk D k) ⟨3, 5, B_Score___init__⟩ as := rfl
theorem F_meanings (k : Nat) (as : List Eng.Arg) : Fk D (k + 1) i_meanings as = runFn D (Fk D k) ⟨2, 4, B_meanings⟩ as := rfl
theorem F_need_cues (k : Nat) (as : List Eng.Arg) : Fk D (k + 1) i_need_cues as = runFn D (Fk D k) ⟨2, 3, B_need_cues⟩ as := rfl
theorem F_need_rig (k : Nat) (as : List Eng.Arg) : Fk D (k + 1) i_need_rig as = runFn D (Fk D k) ⟨1, 1, B_need_rig⟩ as := rfl
theorem F_need_channels (k : Nat) (as : List Eng.Arg) : Fk D (k + 1) i_need_channels as = runFn D (Fk D k) ⟨1, 2, B_need_channels⟩ as := rfl
theorem F_need_number (k : Nat) (as : List Eng.Arg) : Fk D (k + 1) i_need_number as = runFn D (Fk D k) ⟨3, 3, B_need_number⟩ as := rfl
theorem F_first_wrong_act (k : Nat) (as : List Eng.Arg) : Fk D (k + 1) i_first_wrong_act as = runFn D (Fk D k) ⟨2, 4, B_first_wrong_act⟩ as := rfl
theorem F_meaning_behind (k : Nat) (as : List Eng.Arg) : Fk D (k + 1) i_meaning_behind as = runFn D (Fk D k) ⟨3, 6, B_meaning_behind⟩ as := rfl
theorem F_first_wrong_cue (k : Nat) (as : List Eng.Arg) : Fk D (k + 1) i_first_wrong_cue as = runFn D (Fk D k) ⟨2, 4, B_first_wrong_cue⟩ as := rfl
theorem F_first_wrong_name (k : Nat) (as : List Eng.Arg) : Fk D (k + 1) i_first_wrong_name as = runFn D (Fk D k) ⟨1, 3, B_first_wrong_name⟩ as := rfl
theorem F_is_number (k : Nat) (as : List Eng.Arg) : Fk D (k + 1) i_is_number as = runFn D (Fk D k) ⟨3, 3, B_is_number⟩ as := rfl
theorem F_is_act (k : Nat) (as : List Eng.Arg) : Fk D (k + 1) i_is_act as = runFn D (Fk D k) ⟨2, 2, B_is_act⟩ as := rfl
theorem F_is_cue (k : Nat) (as : List Eng.Arg) : Fk D (k + 1) i_is_cue as = runFn D (Fk D k) ⟨2, 2, B_is_cue⟩ as := rfl
theorem F_is_name (k : Nat) (as : List Eng.Arg) : Fk D (k + 1) i_is_name as = runFn D (Fk D k) ⟨1, 1, B_is_name⟩ as := rfl
theorem F_is_whole (k : Nat) (as : List Eng.Arg) : Fk D (k + 1) i_is_whole as = runFn D (Fk D k) ⟨1, 1, B_is_whole⟩ as := rfl
theorem F_has_act_size (k : Nat) (as : List Eng.Arg) : Fk D (k + 1) i_has_act_size as = runFn D (Fk D k) ⟨1, 1, B_has_act_size⟩ as := rfl
theorem F_is_known (k : Nat) (as : List Eng.Arg) : Fk D (k + 1) i_is_known as = runFn D (Fk D k) ⟨2, 2, B_is_known⟩ as := rfl
theorem F_are_moves (k : Nat) (as : List Eng.Arg) : Fk D (k + 1) i_are_moves as = runFn D (Fk D k) ⟨2, 4, B_are_moves⟩ as := rfl
theorem F_is_cue_number (k : Nat) (as : List Eng.Arg) : Fk D (k + 1) i_is_cue_number as = runFn D (Fk D k) ⟨1, 1, B_is_cue_number⟩ as := rfl
theorem F_is_follow (k : Nat) (as : List Eng.Arg) : Fk D (k + 1) i_is_follow as = runFn D (Fk D k) ⟨1, 1, B_is_follow⟩ as := rfl
theorem F_is_truth (k : Nat) (as : List Eng.Arg) : Fk D (k + 1) i_is_truth as = runFn D (Fk D k) ⟨1, 1, B_is_truth⟩ as := rfl
theorem F_are_letters (k : Nat) (as : List Eng.Arg) : Fk D (k + 1) i_are_letters as = runFn D (Fk D k) ⟨1, 2, B_are_letters⟩ as := rfl
theorem F_is_move (k : Nat) (as : List Eng.Arg) : Fk D (k + 1) i_is_move as = runFn D (Fk D k) ⟨2, 2, B_is_move⟩ as := rfl
theorem F_is_level (k : Nat) (as : List Eng.Arg) : Fk D (k + 1) i_is_level as = runFn D (Fk D k) ⟨2, 2, B_is_level⟩ as := rfl
theorem F_Score_look (k : Nat) (as : List Eng.Arg) : Fk D (k + 1) i_Score_look as = runFn D (Fk D k) ⟨2, 6, B_Score_look⟩ as := rfl
theorem F_Score_senders_of (k : Nat) (as : List Eng.Arg) : Fk D (k + 1) i_Score_senders_of as = runFn D (Fk D k) ⟨2, 6, B_Score_senders_of⟩ as := rfl
theorem F_Score_stages (k : Nat) (as : List Eng.Arg) : Fk D (k + 1) i_Score_stages as = runFn D (Fk D k) ⟨2, 4, B_Score_stages⟩ as := rfl
theorem F_level_of (k : Nat) (as : List Eng.Arg) : Fk D (k + 1) i_level_of as = runFn D (Fk D k) ⟨1, 5, B_level_of⟩ as := rfl
theorem F_Score_behind (k : Nat) (as : List Eng.Arg) : Fk D (k + 1) i_Score_behind as = runFn D (Fk D k) ⟨3, 10, B_Score_behind⟩ as := rfl
theorem F_Score_first (k : Nat) (as : List Eng.Arg) : Fk D (k + 1) i_Score_first as = runFn D (Fk D k) ⟨1, 1, B_Score_first⟩ as := rfl
theorem F_held_behind (k : Nat) (as : List Eng.Arg) : Fk D (k + 1) i_held_behind as = runFn D (Fk D k) ⟨2, 5, B_held_behind⟩ as := rfl
theorem F_Score_moved (k : Nat) (as : List Eng.Arg) : Fk D (k + 1) i_Score_moved as = runFn D (Fk D k) ⟨4, 5, B_Score_moved⟩ as := rfl
theorem F_Score_run_behind (k : Nat) (as : List Eng.Arg) : Fk D (k + 1) i_Score_run_behind as = runFn D (Fk D k) ⟨6, 9, B_Score_run_behind⟩ as := rfl
theorem F_sent (k : Nat) (as : List Eng.Arg) : Fk D (k + 1) i_sent as = runFn D (Fk D k) ⟨3, 4, B_sent⟩ as := rfl
theorem F_ticked (k : Nat) (as : List Eng.Arg) : Fk D (k + 1) i_ticked as = runFn D (Fk D k) ⟨1, 5, B_ticked⟩ as := rfl
theorem F_resting (k : Nat) (as : List Eng.Arg) : Fk D (k + 1) i_resting as = runFn D (Fk D k) ⟨1, 1, B_resting⟩ as := rfl
theorem F_Score_jumping (k : Nat) (as : List Eng.Arg) : Fk D (k + 1) i_Score_jumping as = runFn D (Fk D k) ⟨4, 5, B_Score_jumping⟩ as := rfl
theorem F_Score_passing (k : Nat) (as : List Eng.Arg) : Fk D (k + 1) i_Score_passing as = runFn D (Fk D k) ⟨3, 3, B_Score_passing⟩ as := rfl
theorem F_Score_starting (k : Nat) (as : List Eng.Arg) : Fk D (k + 1) i_Score_starting as = runFn D (Fk D k) ⟨2, 2, B_Score_starting⟩ as := rfl
theorem F_Score_follow_of (k : Nat) (as : List Eng.Arg) : Fk D (k + 1) i_Score_follow_of as = runFn D (Fk D k) ⟨2, 3, B_Score_follow_of⟩ as := rfl
end Law
end
section
set_option Elab.async false
set_option linter.all false
set_option maxRecDepth 100000
set_option maxHeartbeats 0
namespace Eng
open PySem PySem.Spec PyProof.Rows L2 HandSHeadRun
/-! HY: a hook that looks at few objects. -/
def refsNs (names : List Str) (o : Obj) : List Addr := match o.data with
  | .dict es _ => es.toList.flatMap fun e => match e.key with
    | .str s _ => if names.contains s then He.refV e.val else []
    | _ => []
  | _ => []
def nextA (g : Addr → Option Obj) (as : List Addr) : List Addr := as.flatMap fun a => match g a with
  | some o => He.refsO o
  | none => []
def asY (names : List Str) (g : Addr → Option Obj) : List Addr := match g mainGlobals with
  | some o => mainGlobals :: (refsNs names o ++ nextA g (refsNs names o) ++ nextA g (nextA g (refsNs names o)) ++ nextA g (nextA g (nextA g (refsNs names o))))
  | none => []
def obsY (names : List Str) (fa : List He.Fa) (fn : List He.DefD) (ts : List He.Tab) (ex : PySem.W.Frag → Bool) (g : Addr → Option Obj) : He.AlX := (He.obsT fa fn ts (He.frT g (asY names g)), ex (He.frT g (asY names g)))
def hookY (names : List Str) (fa : List He.Fa) (fn : List He.DefD) (ts : List He.Tab) (ex : PySem.W.Frag → Bool) : PySem.W.Hook where
  α := He.AlX
  obs := fun s => obsY names fa fn ts ex s.heap.get?
  val := fun w => He.valX fn ts w
  says := fun w h => ∃ K : PySem.W.Frag, K.In h ∧ He.SaysX fa fn ts [] ex w h K
  of := fun w s e => ⟨_, He.frT_in, by
    have e1 := congrArg Prod.fst e
    have e2 := congrArg Prod.snd e
    exact ⟨e1, e2, (fun p hp => by cases hp), (fun p hp => by cases hp), (fun p hp => by cases hp)⟩⟩
  keeps := fun _ _ _ ⟨K, hK, c⟩ k => ⟨K, PySem.W.Frag.In.keeps hK k, ⟨c.t, c.more, (fun p hp => by cases hp), (fun p hp => by cases hp), (fun p hp => by cases hp)⟩⟩
theorem obsY_eq {names : List Str} {fa : List He.Fa} {fn : List He.DefD} {ts : List He.Tab} {ex : PySem.W.Frag → Bool} {g : Addr → Option Obj} {s : Shared} (h : ∀ a, g a = s.heap.get? a) : obsY names fa fn ts ex g = (hookY names fa fn ts ex).obs s := by
  rw [show g = s.heap.get? from funext h] <;> rfl
end Eng
end
section
set_option Elab.async false
set_option linter.all false
set_option maxRecDepth 100000
set_option maxHeartbeats 0
namespace LawH
open PySem PySem.Spec PyProof.Rows L2 Eng Law
abbrev R : PySem.W.OpenRow := PySem.W.OpenLaw.row PySem.Challenge.rw_stagecue_k22_back_at_all_edges
def nms : List Str := sp.cn.fns.map (·.1) ++ sp.cn.clss.map (·.1) ++ sp.cn.cons.map (·.1)
abbrev hk : PySem.W.Hook := Eng.hookY nms sp.facts fnL sp.tabs sp.ex
def ob (s : PySem.W.SharedT) : He.AlX := Eng.obsY nms sp.facts fnL sp.tabs sp.ex (HandSHeadRun.getT s)
theorem ob_eq (s : PySem.W.SharedT) : ob s = hk.obs s.abs := Eng.obsY_eq (HandSHeadRun.getT_eq s)
def loose0 : List Str := [("_wall" : Str), ("__name__" : Str), ("ShowError" : Str), ("NotARig" : Str), ("NotAList" : Str), ("InvalidNumber" : Str), ("InvalidChannels" : Str), ("InvalidCues" : Str), ("InvalidActs" : Str), ("LETTERS" : Str), ("LONGEST" : Str), ("WORDS" : Str), ("are_letters" : Str), ("is_name" : Str), ("is_known" : Str), ("first_wrong_name" : Str), ("is_whole" : Str), ("is_number" : Str), ("is_truth" : Str), ("need_number" : Str), ("MOST_ACTS" : Str), ("MOST_NUMBER_acts" : Str), ("MOST_BACK" : Str), ("SIZES" : Str), ("has_act_size" : Str), ("is_act" : Str), ("first_wrong_act" : Str), ("need_acts" : Str), ("need_back" : Str), ("MOST_CHANNELS" : Str)]
def loose1 : List Str := [("LEAST_TOP" : Str), ("MOST_TOP" : Str), ("need_channels" : Str), ("Rig" : Str), ("need_rig" : Str), ("is_level" : Str), ("LEAST_NUMBER" : Str), ("MOST_NUMBER_cueforms" : Str), ("MOST_FADE" : Str), ("LEAST_FOLLOW" : Str), ("MOST_FOLLOW" : Str), ("PARTS" : Str), ("is_cue_number" : Str), ("is_move" : Str), ("are_moves" : Str), ("is_follow" : Str), ("is_cue" : Str), ("meaning_behind" : Str), ("meanings" : Str), ("MOST_CUES" : Str), ("first_wrong_cue" : Str), ("need_cues" : Str), ("CueList" : Str), ("need_list" : Str), ("STILL" : Str), ("resting" : Str), ("level_of" : Str), ("ticked" : Str), ("sent" : Str), ("NEVER" : Str)]
def loose2 : List Str := [("NOBODY" : Str), ("Score" : Str), ("held_behind" : Str), ("need_acted" : Str), ("looks_of" : Str), ("stage_behind" : Str), ("look_of" : Str), ("_law_well" : Str), ("_law_take" : Str), ("_law_pick" : Str), ("_law_letters" : Str), ("_law_same" : Str), ("_law_name" : Str), ("_law_names" : Str), ("_law_rig" : Str), ("_law_cues" : Str), ("_law_means" : Str), ("_law_list" : Str), ("_law_backs_right" : Str), ("_law_once_right" : Str), ("_law_first_right" : Str), ("_law_aged" : Str), ("_law_round" : Str)]
abbrev loose : List Str := loose0 ++ loose1 ++ loose2
theorem run0 (w : World) : HandSHeadRun.RunEq R (PySem.W.view R.prog [93]) hk ob 20000 loose (w.withFollow "special-get-raises" false) := by
  intro os
  kernel_rfl
theorem run1 (w : World) : HandSHeadRun.RunEq R (PySem.W.view R.prog [93]) hk ob 20000 loose (w.withFollow "special-get-raises" true) := by
  intro os
  kernel_rfl
theorem run (w : World) : HandSHeadRun.RunEq R (PySem.W.view R.prog [93]) hk ob 20000 loose w :=
  PySem.W.byRow2 "special-get-raises" (P := fun w => HandSHeadRun.RunEq R (PySem.W.view R.prog [93]) hk ob 20000 loose w) run0 run1 w
end LawH
end
section
set_option Elab.async false
set_option linter.all false
set_option maxRecDepth 100000
set_option maxHeartbeats 4000000
/-! W: what holds behind an evaluation, rule by rule. -/
namespace Eng
open PySem L2
/-! ### slots -/
def free : Slot → Bool
  | .lent _ => false
  | .sh => false
  | _ => true
theorem put_eq (i : Nat) (s : Slot) (ε : Env) : put i s ε = (match ε[i]? with | some t => if free t then some (ε.set i s) else none | none => none) := by
  unfold put
  cases h : ε[i]? with
  | none => rfl
  | some t => cases t <;> rfl
theorem free_un : free .un = true := rfl
theorem free_val (v : Val) : free (.val v) = true := rfl
theorem free_own (v : Val) : free (.own v) = true := rfl
def SetR (i : Nat) (s : Slot) (ε ε' : Env) : Prop := i < ε.length ∧ ε' = ε.set i s
theorem set_z {s t : Slot} {ε : Env} : SetR 0 s (t :: ε) (s :: ε) := ⟨by simp, rfl⟩
theorem set_s {i : Nat} {s t : Slot} {ε ε' : Env} (h : SetR i s ε ε') : SetR (i + 1) s (t :: ε) (t :: ε') :=
  ⟨by have := h.1; simp; omega, by rw [h.2]; rfl⟩
def PutR (i : Nat) (s : Slot) (ε ε' : Env) : Prop := put i s ε = some ε'
theorem put_z {s t : Slot} {ε : Env} (h : free t = true) : PutR 0 s (t :: ε) (s :: ε) := by
  unfold PutR
  rw [put_eq]
  simp [h]
theorem put_s {i : Nat} {s t : Slot} {ε ε' : Env} (h : PutR i s ε ε') : PutR (i + 1) s (t :: ε) (t :: ε') := by
  unfold PutR at h ⊢
  rw [put_eq] at h ⊢
  simp only [List.getElem?_cons_succ]
  cases e : ε[i]? with
  | none => rw [e] at h; cases h
  | some t' =>
    rw [e] at h
    simp only at h ⊢
    cases ht : free t' with
    | false => rw [ht] at h; cases h
    | true =>
      rw [ht] at h
      simp only [if_true] at h ⊢
      cases h
      rfl
/-! ### the words -/
section
variable (D : Tbl) (F : FT)
@[irreducible] def WE (e : E) (ε : Env) (Q : RV → Env → Prop) : Prop := ∃ r ε', evE D F e ε = some (r, ε') ∧ Q r ε'
@[irreducible] def WF (es : Es) (ε : Env) (Q : List Val → Env → Prop) : Prop := ∃ r ε', evF D F es ε = some (r, ε') ∧ Q r ε'
@[irreducible] def WA (es : Es) (ε : Env) (Q : List RV → Env → Prop) : Prop := ∃ r ε', evA D F es ε = some (r, ε') ∧ Q r ε'
@[irreducible] def WD (es : Es) (ε : Env) (acc : List (Key × Val)) (Q : List (Key × Val) → Env → Prop) : Prop := ∃ r ε', evD D F es ε acc = some (r, ε') ∧ Q r ε'
@[irreducible] def WO (o : OE) (ε : Env) (Q : Option Int → Env → Prop) : Prop := ∃ r ε', evO D F o ε = some (r, ε') ∧ Q r ε'
@[irreducible] def WTs (es : Es) (ε : Env) (Q : Bool → Env → Prop) : Prop := ∃ r ε', evTs D F es ε = some (r, ε') ∧ Q r ε'
@[irreducible] def WI (it : It) (ε : Env) (Q : RV → List Val → Env → Prop) : Prop := ∃ r xs ε', evI D F it ε = some (r, xs, ε') ∧ Q r xs ε'
@[irreducible] def WV (e : E) (ε : Env) (Q : Val → Env → Prop) : Prop := ∃ r ε', vlR (evE D F e ε) = some (r, ε') ∧ Q r ε'
@[irreducible] def WN (e : E) (ε : Env) (Q : Int → Env → Prop) : Prop := ∃ r ε', ivR (evE D F e ε) = some (r, ε') ∧ Q r ε'
@[irreducible] def WT (e : E) (ε : Env) (Q : Bool → Env → Prop) : Prop := ∃ r ε', tsR (evE D F e ε) = some (r, ε') ∧ Q r ε'
def OutP (N : Env → Prop) (R : RV → Env → Prop) (B C : Env → Prop) : Out → Env → Prop
  | .nx, ε => N ε
  | .rt r, ε => R r ε
  | .bk, ε => B ε
  | .ct, ε => C ε
@[irreducible] def WS (s : S) (ε : Env) (N : Env → Prop) (R : RV → Env → Prop) (B C : Env → Prop) : Prop := ∃ o ε', exS D F s ε = some (o, ε') ∧ OutP N R B C o ε'
@[irreducible] def WB (s : Ss) (ε : Env) (N : Env → Prop) (R : RV → Env → Prop) (B C : Env → Prop) : Prop := ∃ o ε', exB D F s ε = some (o, ε') ∧ OutP N R B C o ε'
end
@[irreducible] def LK (r : RV) (ε : Env) (P : Val → Prop) : Prop := ∃ d, look r ε = some d ∧ P d
@[irreducible] def TR (r : RV) (ε : Env) (P : Bool → Prop) : Prop := ∃ d, truR r ε = some d ∧ P d
@[irreducible] def BO (op : Operator) (a b : Val) (P : RV → Prop) : Prop := ∃ r, binop op a b = some r ∧ P r
@[irreducible] def CM (T : List (List (Str × Val))) (op : CmpOp) (a b : Val) (P : Bool → Prop) : Prop := ∃ r, cmpo T op a b = some r ∧ P r
@[irreducible] def IX (T : List (List (Str × Val))) (a b : Val) (P : Val → Prop) : Prop := ∃ r, item T a b = some r ∧ P r
@[irreducible] def SL (a : Val) (lo hi : Option Int) (P : RV → Prop) : Prop := ∃ r, slice a lo hi = some r ∧ P r
@[irreducible] def FD (D : Tbl) (f : Str) (a : Val) (P : Val → Prop) : Prop := ∃ r, fldOf D f a = some r ∧ P r
@[irreducible] def ME (D : Tbl) (m : Str) (a : Val) (P : Nat → Prop) : Prop := ∃ r, clsOf D m a = some r ∧ P r
@[irreducible] def BL (b : Nat) (ds : List Val) (P : RV → Prop) : Prop := ∃ r, blt b ds = some r ∧ P r
@[irreducible] def WC (f : List Arg → Option (RV × List Val)) (as : List Arg) (Q : RV → List Val → Prop) : Prop := ∃ r ds, f as = some (r, ds) ∧ Q r ds
@[irreducible] def CALL (f : List Arg → Option (RV × List Val)) (rs : List RV) (ε : Env) (Q : RV → Env → Prop) : Prop := ∃ r ε', doCall f rs ε = some (r, ε') ∧ Q r ε'
@[irreducible] def FZ (r : RV) (ε : Env) (Q : Val → Env → Prop) : Prop := ∃ d ε', fz r ε = some (d, ε') ∧ Q d ε'
@[irreducible] def STO (i : Nat) (r : RV) (ε : Env) (N : Env → Prop) : Prop := ∃ ε', sto i r ε = some ε' ∧ N ε'
@[irreducible] def STOS (is : List Nat) (ss : List Slot) (ε : Env) (N : Env → Prop) : Prop := ∃ ε', stosP is ss ε = some ε' ∧ N ε'
@[irreducible] def TGS (D : Tbl) (F : FT) (ts : List Tg) (ds : List Val) (ε : Env) (N : Env → Prop) : Prop := ∃ ε', tgsV D F ts ds ε = some ε' ∧ N ε'
@[irreducible] def WRT (r : RV) (d : Val) (ε : Env) (N : Env → Prop) : Prop := ∃ ε', wrt r d ε = some ε' ∧ N ε'
@[irreducible] def MV (r : RV) (ε : Env) (R : RV → Env → Prop) : Prop := ∃ r' ε', mv r ε = some (r', ε') ∧ R r' ε'
@[irreducible] def IFB (b : Bool) (A B : Prop) : Prop := (b = true → A) ∧ (b = false → B)
@[irreducible] def OUTS (as : List Arg) (ε : Env) (P : List Val → Prop) : Prop := ∃ ds, outsOf as ε = some ds ∧ P ds
def SM {α : Type} (o : Option α) (P : α → Prop) : Prop := ∃ a, o = some a ∧ P a
theorem sm_of {α : Type} {o : Option α} {a : α} {P : α → Prop} (h : o = some a) (p : P a) : SM o P := ⟨a, h, p⟩
def IN (d : Val) (P : Int → Prop) : Prop := ∃ i, d = .int i ∧ P i
theorem in_of {i : Int} {P : Int → Prop} (p : P i) : IN (.int i) P := ⟨i, rfl, p⟩
def TUPN (d : Val) (n : Nat) (P : List Val → Prop) : Prop := ∃ ds, d = .tup ds ∧ ds.length = n ∧ P ds
theorem tupn_of {ds : List Val} {n : Nat} {P : List Val → Prop} (h : ds.length = n) (p : P ds) : TUPN (.tup ds) n P := ⟨ds, rfl, h, p⟩
def HD (ds : List Val) (P : Val → Prop) : Prop := ∃ d ds', ds = d :: ds' ∧ P d
theorem hd_of {d : Val} {ds : List Val} {P : Val → Prop} (p : P d) : HD (d :: ds) P := ⟨d, ds, rfl, p⟩
def DCT (d : Val) (P : List (Key × Val) → Prop) : Prop := ∃ kvs, d = .dct kvs ∧ P kvs
theorem dct_of {kvs : List (Key × Val)} {P : List (Key × Val) → Prop} (p : P kvs) : DCT (.dct kvs) P := ⟨kvs, rfl, p⟩
def ISD (r : RV) (ε : Env) (P : Prop) : Prop := isDct (look r ε) = true ∧ P
theorem isd_of {r : RV} {ε : Env} {P : Prop} (h : isDct (look r ε) = true) (p : P) : ISD r ε P := ⟨h, p⟩
theorem ifb_t {b : Bool} {A B : Prop} (h : b = true) (a : A) : IFB b A B := by
  unfold IFB
  exact ⟨fun _ => a, fun h' => by rw [h] at h'; cases h'⟩
theorem ifb_f {b : Bool} {A B : Prop} (h : b = false) (a : B) : IFB b A B := by
  unfold IFB
  exact ⟨fun h' => absurd (h.symm.trans h') (by decide), fun _ => a⟩
theorem ifb_s {b : Bool} {A B : Prop} (h1 : b = true → A) (h2 : b = false → B) : IFB b A B := by
  unfold IFB
  exact ⟨h1, h2⟩
/-! ### rules: slots and values -/
section
variable {D : Tbl} {F : FT} {ε ε' ε1 : Env} {d d' v : Val} {i j : Nat} {r : RV}
theorem lk_of {P : Val → Prop} (h : look r ε = some d) (p : P d) : LK r ε P := by
  unfold LK; exact ⟨d, h, p⟩
theorem tr_of {P : Bool → Prop} {b : Bool} (h : truR r ε = some b) (p : P b) : TR r ε P := by
  unfold TR; exact ⟨b, h, p⟩
theorem bo_of {op : Operator} {a b : Val} {P : RV → Prop} (h : binop op a b = some r) (p : P r) : BO op a b P := by
  unfold BO; exact ⟨r, h, p⟩
theorem cm_of {T : List (List (Str × Val))} {op : CmpOp} {a b : Val} {P : Bool → Prop} {c : Bool} (h : cmpo T op a b = some c) (p : P c) : CM T op a b P := by
  unfold CM; exact ⟨c, h, p⟩
theorem ix_of {T : List (List (Str × Val))} {a b : Val} {P : Val → Prop} (h : item T a b = some d) (p : P d) : IX T a b P := by
  unfold IX; exact ⟨d, h, p⟩
theorem sl_of {a : Val} {lo hi : Option Int} {P : RV → Prop} (h : slice a lo hi = some r) (p : P r) : SL a lo hi P := by
  unfold SL; exact ⟨r, h, p⟩
theorem fd_of {f : Str} {a : Val} {P : Val → Prop} (h : fldOf D f a = some d) (p : P d) : FD D f a P := by
  unfold FD; exact ⟨d, h, p⟩
theorem me_of {f : Str} {a : Val} {P : Nat → Prop} (h : clsOf D f a = some i) (p : P i) : ME D f a P := by
  unfold ME; exact ⟨i, h, p⟩
theorem bl_of {b : Nat} {ds : List Val} {P : RV → Prop} (h : blt b ds = some r) (p : P r) : BL b ds P := by
  unfold BL; exact ⟨r, h, p⟩
theorem wc_of {f : List Arg → Option (RV × List Val)} {as : List Arg} {Q : RV → List Val → Prop} {ds : List Val} (h : f as = some (r, ds)) (q : Q r ds) : WC f as Q := by
  unfold WC; exact ⟨r, ds, h, q⟩
theorem wc_ex {f : List Arg → Option (RV × List Val)} {as : List Arg} {Q : RV → List Val → Prop} (h : WC f as Q) : ∃ r ds, f as = some (r, ds) ∧ Q r ds := by
  unfold WC at h; exact h
theorem wc_eq {f : List Arg → Option (RV × List Val)} {as : List Arg} {ds : List Val} (h : WC f as (fun r' ds' => r' = r ∧ ds' = ds)) : f as = some (r, ds) := by
  unfold WC at h
  obtain ⟨r', ds', h, rfl, rfl⟩ := h
  exact h
theorem wc_mono {f : List Arg → Option (RV × List Val)} {as : List Arg} {Q Q' : RV → List Val → Prop} (h : WC f as Q) (hq : ∀ r ds, Q r ds → Q' r ds) : WC f as Q' := by
  unfold WC at h ⊢
  obtain ⟨r', ds', h, q⟩ := h
  exact ⟨r', ds', h, hq _ _ q⟩
theorem fzw_v {Q : Val → Env → Prop} (q : Q d ε) : FZ (.v d) ε Q := by
  unfold FZ; exact ⟨d, ε, rfl, q⟩
theorem fzw_o {Q : Val → Env → Prop} (q : Q d ε) : FZ (.o d) ε Q := by
  unfold FZ; exact ⟨d, ε, rfl, q⟩
theorem fzw_val {Q : Val → Env → Prop} (h : ε[i]? = some (.val d)) (q : Q d ε) : FZ (.b i) ε Q := by
  unfold FZ
  refine ⟨d, ε, ?_, q⟩
  unfold fz
  simp only [h]
theorem fzw_own {Q : Val → Env → Prop} (h : ε[i]? = some (.own d)) (s : SetR i (.val d) ε ε') (q : Q d ε') : FZ (.b i) ε Q := by
  unfold FZ
  refine ⟨d, ε', ?_, q⟩
  unfold fz
  simp only [h]
  rw [s.2]
theorem stw_v {N : Env → Prop} (h : PutR i (.val d) ε ε') (n : N ε') : STO i (.v d) ε N := by
  unfold STO; exact ⟨ε', h, n⟩
theorem stw_o {N : Env → Prop} (h : PutR i (.own d) ε ε') (n : N ε') : STO i (.o d) ε N := by
  unfold STO; exact ⟨ε', h, n⟩
theorem stw_val {N : Env → Prop} (h : ε[j]? = some (.val d)) (h2 : PutR i (.val d) ε ε') (n : N ε') : STO i (.b j) ε N := by
  unfold STO
  refine ⟨ε', ?_, n⟩
  unfold sto fz
  simp only [h]
  exact h2
theorem stw_own {N : Env → Prop} (h : ε[j]? = some (.own d)) (h1 : SetR j (.val d) ε ε1) (h2 : PutR i (.val d) ε1 ε') (n : N ε') : STO i (.b j) ε N := by
  unfold STO
  refine ⟨ε', ?_, n⟩
  unfold sto fz
  simp only [h]
  rw [← h1.2]
  exact h2
theorem stws_nil {N : Env → Prop} (n : N ε) : STOS [] [] ε N := by
  unfold STOS; exact ⟨ε, rfl, n⟩
theorem stws_cons {is : List Nat} {t : Slot} {ss : List Slot} {N : Env → Prop} (h : PutR i t ε ε') (n : STOS is ss ε' N) : STOS (i :: is) (t :: ss) ε N := by
  unfold STOS at n ⊢
  obtain ⟨ε2, h2, n⟩ := n
  refine ⟨ε2, ?_, n⟩
  unfold stosP
  unfold PutR at h
  rw [h]
  exact h2
theorem wrw_own {N : Env → Prop} (h : ε[i]? = some (.own d')) (s : SetR i (.own d) ε ε') (n : N ε') : WRT (.b i) d ε N := by
  unfold WRT
  refine ⟨ε', ?_, n⟩
  unfold wrt
  simp only [h]
  rw [← s.2]
theorem wrw_lent {N : Env → Prop} (h : ε[i]? = some (.lent d')) (s : SetR i (.lent d) ε ε') (n : N ε') : WRT (.b i) d ε N := by
  unfold WRT
  refine ⟨ε', ?_, n⟩
  unfold wrt
  simp only [h]
  rw [← s.2]
theorem mvw_v {R : RV → Env → Prop} (h : R (.v d) ε) : MV (.v d) ε R := by
  unfold MV; exact ⟨_, _, rfl, h⟩
theorem mvw_o {R : RV → Env → Prop} (h : R (.o d) ε) : MV (.o d) ε R := by
  unfold MV; exact ⟨_, _, rfl, h⟩
theorem mvw_val {R : RV → Env → Prop} (h : ε[i]? = some (.val d)) (q : R (.v d) ε) : MV (.b i) ε R := by
  unfold MV
  refine ⟨_, _, ?_, q⟩
  unfold mv
  simp only [h]
theorem mvw_own {R : RV → Env → Prop} (h : ε[i]? = some (.own d)) (s : SetR i .un ε ε') (q : R (.o d) ε') : MV (.b i) ε R := by
  unfold MV
  refine ⟨_, _, ?_, q⟩
  unfold mv
  simp only [h]
  rw [← s.2]
theorem outs_of {as : List Arg} {ds : List Val} {P : List Val → Prop} (h : outsOf as ε = some ds) (p : P ds) : OUTS as ε P := by
  unfold OUTS; exact ⟨ds, h, p⟩
end
end Eng
end
section
set_option Elab.async false
set_option linter.all false
set_option maxRecDepth 100000
set_option maxHeartbeats 4000000
namespace Eng
open PySem L2
section
variable {D : Tbl} {F : FT} {ε ε1 ε' : Env} {Q : RV → Env → Prop}
/-! ### rules: expressions -/
theorem wv_of {e : E} {Q : Val → Env → Prop} (h : WE D F e ε fun r ε1 => FZ r ε1 Q) : WV D F e ε Q := by
  unfold WE at h; unfold WV
  obtain ⟨r, ε1, h, q⟩ := h
  unfold FZ at q
  obtain ⟨d, ε2, h2, q⟩ := q
  refine ⟨d, ε2, ?_, q⟩
  rw [h]
  exact h2
theorem wn_of {e : E} {Q : Int → Env → Prop} (h : WE D F e ε fun r ε1 => LK r ε1 fun d => IN d fun i => Q i ε1) : WN D F e ε Q := by
  unfold WE at h; unfold WN
  obtain ⟨r, ε1, h, q⟩ := h
  unfold LK at q
  obtain ⟨d, h2, i, rfl, q⟩ := q
  refine ⟨i, ε1, ?_, q⟩
  rw [h]
  unfold ivR
  simp only [h2]
theorem wt_of {e : E} {Q : Bool → Env → Prop} (h : WE D F e ε fun r ε1 => TR r ε1 fun b => Q b ε1) : WT D F e ε Q := by
  unfold WE at h; unfold WT
  obtain ⟨r, ε1, h, q⟩ := h
  unfold TR at q
  obtain ⟨d, h2, q⟩ := q
  refine ⟨d, ε1, ?_, q⟩
  rw [h]
  unfold tsR
  simp only [h2]
theorem we_lit {d : Val} (q : Q (.v d) ε) : WE D F (.lit d) ε Q := by
  unfold WE; exact ⟨_, _, ev_lit, q⟩
theorem we_var {i : Nat} {d : Val} (h : look (.b i) ε = some d) (q : Q (.b i) ε) : WE D F (.var i) ε Q := by
  unfold WE; exact ⟨_, _, by rw [ev_var, h], q⟩
theorem we_tup {es : Es} (h : WF D F es ε fun ds ε1 => Q (.v (.tup ds)) ε1) : WE D F (.tup es) ε Q := by
  unfold WF at h; unfold WE
  obtain ⟨ds, ε1, h, q⟩ := h
  exact ⟨_, _, by rw [ev_tup, h], q⟩
theorem we_lst {es : Es} (h : WF D F es ε fun ds ε1 => Q (.o (.lst ds)) ε1) : WE D F (.lst es) ε Q := by
  unfold WF at h; unfold WE
  obtain ⟨ds, ε1, h, q⟩ := h
  exact ⟨_, _, by rw [ev_lst, h], q⟩
theorem we_dsp {es : Es} (h : WD D F es ε [] fun ds ε1 => Q (.o (.dct ds)) ε1) : WE D F (.dsp es) ε Q := by
  unfold WD at h; unfold WE
  obtain ⟨ds, ε1, h, q⟩ := h
  exact ⟨_, _, by rw [ev_dsp, h], q⟩
theorem we_bin {op : Operator} {a b : E} (h : WE D F a ε fun x ε1 => WE D F b ε1 fun y ε2 => LK x ε2 fun d => LK y ε2 fun d' => BO op d d' fun r => Q r ε2) : WE D F (.bin op a b) ε Q := by
  unfold WE at h ⊢
  obtain ⟨x, ε1, h1, y, ε2, h2, h⟩ := h
  unfold LK BO at h
  obtain ⟨d, h3, d', h4, r, h5, q⟩ := h
  exact ⟨r, ε2, by rw [ev_bin]; simp only [h1, h2, h3, h4, h5, ofR], q⟩
theorem we_neg {a : E} (h : WN D F a ε fun i ε1 => Q (.v (.int (-i))) ε1) : WE D F (.neg a) ε Q := by
  unfold WN at h; unfold WE
  obtain ⟨i, ε1, h, q⟩ := h
  exact ⟨_, _, by rw [ev_neg, h], q⟩
theorem we_cmp {op : CmpOp} {a b : E} (h : WE D F a ε fun x ε1 => WE D F b ε1 fun y ε2 => LK x ε2 fun d => LK y ε2 fun d' => CM D.kds op d d' fun c => Q (.v (.bl c)) ε2) : WE D F (.cmp op a b) ε Q := by
  unfold WE at h ⊢
  obtain ⟨x, ε1, h1, y, ε2, h2, h⟩ := h
  unfold LK CM at h
  obtain ⟨d, h3, d', h4, r, h5, q⟩ := h
  exact ⟨_, ε2, by rw [ev_cmp]; simp only [h1, h2, h3, h4, h5, ofBl], q⟩
theorem we_chn {op op' : CmpOp} {a b c : E} (h : WE D F a ε fun x ε1 => WE D F b ε1 fun y ε2 => LK x ε2 fun d => LK y ε2 fun d' => CM D.kds op d d' fun t =>
    IFB t (WE D F c ε2 fun z ε3 => LK y ε3 fun e => LK z ε3 fun g => CM D.kds op' e g fun t' => Q (.v (.bl t')) ε3) (Q (.v (.bl false)) ε2)) : WE D F (.chn op op' a b c) ε Q := by
  unfold WE at h ⊢
  obtain ⟨x, ε1, h1, y, ε2, h2, h⟩ := h
  unfold LK CM at h
  obtain ⟨d, h3, d', h4, t, h5, q⟩ := h
  unfold IFB at q
  cases t with
  | false =>
    exact ⟨_, ε2, by rw [ev_chn]; simp only [h1, h2, h3, h4, h5], q.2 rfl⟩
  | true =>
    obtain ⟨z, ε3, h6, q⟩ := q.1 rfl
    obtain ⟨e, h7, g, h8, t', h9, q⟩ := q
    exact ⟨_, ε3, by rw [ev_chn]; simp only [h1, h2, h3, h4, h5, h6, h7, h8, h9, ofBl], q⟩
theorem we_and2 {a b : E} (h : WE D F a ε fun r ε1 => TR r ε1 fun t => IFB t (WE D F b ε1 Q) (Q r ε1)) : WE D F (.and2 a b) ε Q := by
  unfold WE at h ⊢
  obtain ⟨x, ε1, h1, h⟩ := h
  unfold TR at h
  obtain ⟨t, h2, h⟩ := h
  unfold IFB at h
  cases t with
  | false => exact ⟨_, _, by rw [ev_and2]; simp only [h1, h2], h.2 rfl⟩
  | true =>
    obtain ⟨r, ε2, h3, q⟩ := h.1 rfl
    exact ⟨_, _, by rw [ev_and2]; simp only [h1, h2]; exact h3, q⟩
theorem we_or2 {a b : E} (h : WE D F a ε fun r ε1 => TR r ε1 fun t => IFB t (Q r ε1) (WE D F b ε1 Q)) : WE D F (.or2 a b) ε Q := by
  unfold WE at h ⊢
  obtain ⟨x, ε1, h1, h⟩ := h
  unfold TR at h
  obtain ⟨t, h2, h⟩ := h
  unfold IFB at h
  cases t with
  | true => exact ⟨_, _, by rw [ev_or2]; simp only [h1, h2], h.1 rfl⟩
  | false =>
    obtain ⟨r, ε2, h3, q⟩ := h.2 rfl
    exact ⟨_, _, by rw [ev_or2]; simp only [h1, h2]; exact h3, q⟩
theorem we_not {a : E} (h : WT D F a ε fun b ε1 => Q (.v (.bl (!b))) ε1) : WE D F (.not a) ε Q := by
  unfold WT at h; unfold WE
  obtain ⟨i, ε1, h, q⟩ := h
  exact ⟨_, _, by rw [ev_not, h], q⟩
theorem we_ife {c a b : E} (h : WT D F c ε fun t ε1 => IFB t (WE D F a ε1 Q) (WE D F b ε1 Q)) : WE D F (.ife c a b) ε Q := by
  unfold WT at h; unfold WE at h ⊢
  obtain ⟨t, ε1, h1, h⟩ := h
  unfold IFB at h
  cases t with
  | true =>
    obtain ⟨r, ε2, h3, q⟩ := h.1 rfl
    exact ⟨_, _, by rw [ev_ife]; simp only [h1]; exact h3, q⟩
  | false =>
    obtain ⟨r, ε2, h3, q⟩ := h.2 rfl
    exact ⟨_, _, by rw [ev_ife]; simp only [h1]; exact h3, q⟩
theorem we_ix {a b : E} (h : WE D F a ε fun x ε1 => WE D F b ε1 fun y ε2 => LK x ε2 fun d => LK y ε2 fun d' => IX D.kds d d' fun v => Q (.v v) ε2) : WE D F (.ix a b) ε Q := by
  unfold WE at h ⊢
  obtain ⟨x, ε1, h1, y, ε2, h2, h⟩ := h
  unfold LK IX at h
  obtain ⟨d, h3, d', h4, r, h5, q⟩ := h
  exact ⟨_, ε2, by rw [ev_ix]; simp only [h1, h2, h3, h4, h5, ofV], q⟩
theorem we_slc {a : E} {lo hi : OE} (h : WE D F a ε fun x ε1 => WO D F lo ε1 fun l ε2 => WO D F hi ε2 fun u ε3 => LK x ε3 fun d => SL d l u fun r => Q r ε3) : WE D F (.slc a lo hi) ε Q := by
  unfold WE at h ⊢
  obtain ⟨x, ε1, h1, h⟩ := h
  unfold WO at h
  obtain ⟨l, ε2, h2, u, ε3, h3, h⟩ := h
  unfold LK SL at h
  obtain ⟨d, h4, r, h5, q⟩ := h
  exact ⟨_, ε3, by rw [ev_slc]; simp only [h1, h2, h3, h4, h5, ofR], q⟩
theorem we_fld {a : E} {f : Str} (h : WE D F a ε fun x ε1 => LK x ε1 fun d => FD D f d fun v => Q (.v v) ε1) : WE D F (.fld a f) ε Q := by
  unfold WE at h ⊢
  obtain ⟨x, ε1, h1, h⟩ := h
  unfold LK FD at h
  obtain ⟨d, h3, r, h5, q⟩ := h
  exact ⟨_, ε1, by rw [ev_fld]; simp only [h1, h3, h5, ofV], q⟩
theorem we_call {f : Nat} {as : Es} (h : WA D F as ε fun rs ε1 => CALL (F f) rs ε1 Q) : WE D F (.call f as) ε Q := by
  unfold WA at h; unfold WE
  obtain ⟨rs, ε1, h1, h⟩ := h
  unfold CALL at h
  obtain ⟨r, ε2, h2, q⟩ := h
  exact ⟨_, _, by rw [ev_call, h1]; exact h2, q⟩
theorem we_meth {m : Str} {e : E} {as : Es} (h : WE D F e ε fun x ε1 => LK x ε1 fun d => ME D m d fun f => WA D F as ε1 fun rs ε2 => CALL (F f) (x :: rs) ε2 Q) : WE D F (.meth m e as) ε Q := by
  unfold WE at h ⊢
  obtain ⟨x, ε1, h1, h⟩ := h
  unfold LK ME at h
  obtain ⟨d, h2, f, h3, h⟩ := h
  unfold WA at h
  obtain ⟨rs, ε2, h4, h⟩ := h
  unfold CALL at h
  obtain ⟨r, ε3, h5, q⟩ := h
  exact ⟨_, _, by rw [ev_meth]; simp only [h1, h2, h3, h4]; exact h5, q⟩
theorem back_none : ∀ (rs : List RV) (ds : List Val) (ε : Env), lentIx rs ε = [] → back rs ds ε = ε
  | [], _, _, _ => by unfold back; rfl
  | .v d :: rs, [], ε, _ => by unfold back; rfl
  | .o d :: rs, [], ε, _ => by unfold back; rfl
  | .b i :: rs, [], ε, _ => by unfold back; rfl
  | .v d :: rs, x :: ds, ε, h => by
    unfold lentIx at h
    unfold back
    exact back_none rs ds ε h
  | .o d :: rs, x :: ds, ε, h => by
    unfold lentIx at h
    unfold back
    exact back_none rs ds ε h
  | .b i :: rs, x :: ds, ε, h => by
    unfold lentIx at h
    unfold back
    cases e : ε[i]? with
    | none => rw [e] at h; simp only at h ⊢; exact back_none rs ds ε h
    | some s =>
      rw [e] at h
      cases s with
      | own d => simp at h
      | lent d => simp at h
      | un => simp only at h ⊢; exact back_none rs ds ε h
      | val d => simp only at h ⊢; exact back_none rs ds ε h
      | sh => simp only at h ⊢; exact back_none rs ds ε h
theorem we_make {c : Nat} {es : Es} {C : ClsR} (hC : D.cls[c]? = some C) (hf : C.frozen = true) (h : WA D F es ε fun rs ε1 => SM (argsOf rs ε1) fun as => lentIx rs ε1 = [] ∧ WC (F C.init) (.lent (.ins c []) :: as) fun r ds => r = .v .non ∧ HD ds fun d => Q (.v d) ε1) : WE D F (.make c es) ε Q := by
  unfold WA at h; unfold WE
  obtain ⟨rs, ε1, h1, as, h2, h3, h⟩ := h
  unfold WC at h
  obtain ⟨r, ds, h4, rfl, d, ds', rfl, q⟩ := h
  refine ⟨_, _, ?_, q⟩
  rw [ev_make, h1]
  simp only
  unfold mkI
  rw [hC]
  simp only [h2, h3, nodupB, if_true, h4, hf, back_none rs ds' ε1 h3]
theorem we_blt {b : Nat} {es : Es} (h : WA D F es ε fun rs ε1 => SM (looks rs ε1) fun ds => BL b ds fun r => Q r ε1) : WE D F (.blt b es) ε Q := by
  unfold WA at h; unfold WE
  obtain ⟨rs, ε1, h1, ds, h2, h⟩ := h
  unfold BL at h
  obtain ⟨r, h3, q⟩ := h
  exact ⟨_, _, by rw [ev_blt]; simp only [h1, h2, h3, ofR], q⟩
theorem we_dget1 {a k : E} (h : WE D F a ε fun x ε1 => ISD x ε1 (WE D F k ε1 fun y ε2 => LK x ε2 fun d => LK y ε2 fun e => DCT d fun kvs => SM (keyOf e) fun k => Q (.v ((dget kvs k).getD .non)) ε2)) : WE D F (.dget1 a k) ε Q := by
  unfold WE at h ⊢
  obtain ⟨x, ε1, h1, h2, y, ε2, h3, h⟩ := h
  unfold LK at h
  obtain ⟨d, h4, e, h5, kvs, rfl, k', h6, q⟩ := h
  exact ⟨_, _, by rw [ev_dget1]; simp only [h1, h2, if_true, h3, h4, h5, bGet1, h6, ofR], q⟩
theorem we_dget2 {a k z : E} (h : WE D F a ε fun x ε1 => ISD x ε1 (WE D F k ε1 fun y ε2 => WV D F z ε2 fun g ε3 => LK x ε3 fun d => LK y ε3 fun e => DCT d fun kvs => SM (keyOf e) fun k => Q (.v ((dget kvs k).getD g)) ε3)) : WE D F (.dget2 a k z) ε Q := by
  unfold WE at h ⊢
  obtain ⟨x, ε1, h1, h2, y, ε2, h3, h⟩ := h
  unfold WV at h
  obtain ⟨g, ε3, hg, h⟩ := h
  unfold LK at h
  obtain ⟨d, h4, e, h5, kvs, rfl, k', h6, q⟩ := h
  exact ⟨_, _, by rw [ev_dget2]; simp only [h1, h2, if_true, h3, hg, h4, h5, bGet2, h6, ofR], q⟩
theorem we_isB {a : E} {t : Nat} (h : WE D F a ε fun x ε1 => LK x ε1 fun d => SM (isBt D.cls.length d t) fun b => Q (.v (.bl b)) ε1) : WE D F (.isB a t) ε Q := by
  unfold WE at h ⊢
  obtain ⟨x, ε1, h1, h⟩ := h
  unfold LK at h
  obtain ⟨d, h2, b, h3, q⟩ := h
  exact ⟨_, _, by rw [ev_isB]; simp only [h1, h2, h3, ofBl], q⟩
theorem we_isC {a : E} {t : Nat} (h : WE D F a ε fun x ε1 => LK x ε1 fun d => SM (isCt D.cls.length d t) fun b => Q (.v (.bl b)) ε1) : WE D F (.isC a t) ε Q := by
  unfold WE at h ⊢
  obtain ⟨x, ε1, h1, h⟩ := h
  unfold LK at h
  obtain ⟨d, h2, b, h3, q⟩ := h
  exact ⟨_, _, by rw [ev_isC]; simp only [h1, h2, h3, ofBl], q⟩
/-! ### several -/
theorem wf_nil {Q : List Val → Env → Prop} (q : Q [] ε) : WF D F .nil ε Q := by
  unfold WF; exact ⟨_, _, fv_nil0, q⟩
theorem wf_cons {e : E} {es : Es} {Q : List Val → Env → Prop} (h : WV D F e ε fun d ε1 => WF D F es ε1 fun ds ε2 => Q (d :: ds) ε2) : WF D F (.cons e es) ε Q := by
  unfold WV at h; unfold WF at h ⊢
  obtain ⟨d, ε1, h1, ds, ε2, h2, q⟩ := h
  exact ⟨_, _, by rw [fv_cons1]; simp only [h1, h2], q⟩
theorem wa_nil {Q : List RV → Env → Prop} (q : Q [] ε) : WA D F .nil ε Q := by
  unfold WA; exact ⟨_, _, av_nil0, q⟩
theorem wa_cons {e : E} {es : Es} {Q : List RV → Env → Prop} (h : WE D F e ε fun d ε1 => WA D F es ε1 fun ds ε2 => Q (d :: ds) ε2) : WA D F (.cons e es) ε Q := by
  unfold WE at h; unfold WA at h ⊢
  obtain ⟨d, ε1, h1, ds, ε2, h2, q⟩ := h
  exact ⟨_, _, by rw [av_cons1]; simp only [h1, h2], q⟩
theorem wd_nil {acc : List (Key × Val)} {Q : List (Key × Val) → Env → Prop} (q : Q acc ε) : WD D F .nil ε acc Q := by
  unfold WD; exact ⟨_, _, dv_nil0, q⟩
theorem wd_cons {k v : E} {es : Es} {acc : List (Key × Val)} {Q : List (Key × Val) → Env → Prop} (h : WV D F k ε fun d ε1 => SM (keyOf d) fun ky => WV D F v ε1 fun x ε2 => WD D F es ε2 (dput acc ky x) Q) : WD D F (.cons k (.cons v es)) ε acc Q := by
  unfold WV at h; unfold WD at h ⊢
  obtain ⟨d, ε1, h1, ky, h2, x, ε2, h3, r, ε3, h4, q⟩ := h
  exact ⟨_, _, by rw [dv_cons1]; simp only [h1, h2, h3, h4], q⟩
theorem wo_no {Q : Option Int → Env → Prop} (q : Q none ε) : WO D F .no ε Q := by
  unfold WO; exact ⟨_, _, ov_no0, q⟩
theorem wo_so {e : E} {Q : Option Int → Env → Prop} (h : WN D F e ε fun i ε1 => Q (some i) ε1) : WO D F (.so e) ε Q := by
  unfold WN at h; unfold WO
  obtain ⟨i, ε1, h1, q⟩ := h
  exact ⟨_, _, by rw [ov_so1, h1], q⟩
theorem wts_nil {Q : Bool → Env → Prop} (q : Q true ε) : WTs D F .nil ε Q := by
  unfold WTs; exact ⟨_, _, tv_nil0, q⟩
theorem wts_one {e : E} {Q : Bool → Env → Prop} (h : WT D F e ε Q) : WTs D F (.cons e .nil) ε Q := by
  unfold WT at h; unfold WTs
  obtain ⟨b, ε1, h1, q⟩ := h
  exact ⟨_, _, by rw [tv_cons1, h1], q⟩
theorem wi_seq {e : E} {Q : RV → List Val → Env → Prop} (h : WE D F e ε fun x ε1 => LK x ε1 fun d => SM (walkV d) fun xs => Q x xs ε1) : WI D F (.seq e) ε Q := by
  unfold WE at h; unfold WI
  obtain ⟨x, ε1, h1, h⟩ := h
  unfold LK at h
  obtain ⟨d, h2, xs, h3, q⟩ := h
  exact ⟨_, _, _, by rw [iv_seq0]; simp only [h1, h2, h3], q⟩
theorem wi_rng1 {e : E} {Q : RV → List Val → Env → Prop} (h : WN D F e ε fun i ε1 => inR i = true ∧ Q (.v .non) (rangeV 0 i) ε1) : WI D F (.rng1 e) ε Q := by
  unfold WN at h; unfold WI
  obtain ⟨i, ε1, h1, h2, q⟩ := h
  exact ⟨_, _, _, by rw [iv_rng11]; simp only [h1, h2, if_true], q⟩
theorem wi_rng2 {a b : E} {Q : RV → List Val → Env → Prop} (h : WN D F a ε fun i ε1 => WN D F b ε1 fun j ε2 => (inR i && inR j) = true ∧ Q (.v .non) (rangeV i j) ε2) : WI D F (.rng2 a b) ε Q := by
  unfold WN at h; unfold WI
  obtain ⟨i, ε1, h1, j, ε2, h2, h3, q⟩ := h
  exact ⟨_, _, _, by rw [iv_rng22]; simp only [h1, h2, h3, if_true], q⟩
theorem wi_enum {e : E} {Q : RV → List Val → Env → Prop} (h : WV D F e ε fun d ε1 => SM (itemsOf d) fun xs => Q (.v .non) (enumV 0 xs) ε1) : WI D F (.enum e) ε Q := by
  unfold WV at h; unfold WI
  obtain ⟨i, ε1, h1, xs, h2, q⟩ := h
  exact ⟨_, _, _, by rw [iv_enum3]; simp only [h1, h2], q⟩
theorem wi_zip {a b : E} {Q : RV → List Val → Env → Prop} (h : WV D F a ε fun d ε1 => WV D F b ε1 fun e ε2 => SM (zipD d e) fun xs => Q (.v .non) xs ε2) : WI D F (.zip a b) ε Q := by
  unfold WV at h; unfold WI
  obtain ⟨i, ε1, h1, j, ε2, h2, xs, h3, q⟩ := h
  exact ⟨_, _, _, by rw [iv_zip4]; simp only [h1, h2, h3], q⟩
/-! ### calls -/
theorem call_plain {f : List Arg → Option (RV × List Val)} {rs : List RV} {as : List Arg} (h : argsOf rs ε = some as) (h2 : lentIx rs ε = []) (w : WC f as fun r _ => Q r ε) : CALL f rs ε Q := by
  unfold WC at w; unfold CALL
  obtain ⟨r, ds, h3, q⟩ := w
  refine ⟨r, ε, ?_, q⟩
  unfold doCall
  simp only [h, h2, nodupB, if_true, h3, back_none rs ds ε h2]
theorem call_lent {f : List Arg → Option (RV × List Val)} {rs : List RV} {as : List Arg} (h : argsOf rs ε = some as) (h2 : nodupB (lentIx rs ε) = true) (w : WC f as fun r ds => Q r (back rs ds ε)) : CALL f rs ε Q := by
  unfold WC at w; unfold CALL
  obtain ⟨r, ds, h3, q⟩ := w
  refine ⟨r, _, ?_, q⟩
  unfold doCall
  simp only [h, h2, if_true, h3]
/-- the first argument is the first slot, lent; no other is -/
theorem call_well {f : List Arg → Option (RV × List Val)} {rs : List RV} {as : List Arg} {w : Val} (h : argsOf (.b 0 :: rs) (.lent w :: ε) = some as) (h2 : ∀ d, lentIx rs (.lent d :: ε) = [])
    (q : WC f as fun r ds => HD ds fun d => Q r (.lent d :: ε)) : CALL f (.b 0 :: rs) (.lent w :: ε) Q := by
  unfold WC at q; unfold CALL
  obtain ⟨r, ds, h3, d, ds', rfl, q⟩ := q
  refine ⟨r, _, ?_, q⟩
  unfold doCall
  have e : lentIx (.b 0 :: rs) (.lent w :: ε) = [0] := by
    unfold lentIx
    simp [h2 w]
  have e2 : back (.b 0 :: rs) (d :: ds') (.lent w :: ε) = .lent d :: ε := by
    unfold back
    simp only [List.getElem?_cons_zero, List.set_cons_zero]
    exact back_none rs ds' _ (h2 d)
  simp only [h, e, nodupB, List.contains_nil, Bool.not_false, Bool.and_self, if_true, h3, e2]
end
end Eng
end
section
set_option Elab.async false
set_option linter.all false
set_option maxRecDepth 100000
set_option maxHeartbeats 4000000
namespace Eng
open PySem L2
/-! ### targets, wiped slots -/
def WipeR (ε : Env) (own : List Nat) (ε' : Env) : Prop := wipeE ε own = ε'
theorem wipe_nil {ε : Env} : WipeR ε [] ε := rfl
theorem wipe_cons {ε ε1 ε' : Env} {i : Nat} {is : List Nat} (h : WipeR ε is ε1) (s : SetR i .un ε1 ε') : WipeR ε (i :: is) ε' := by
  unfold WipeR at h ⊢
  unfold wipeE
  rw [h, s.2]
def TgR (tg : List Nat) (x : Val) (ε ε' : Env) : Prop := tgs tg x ε = some ε'
theorem tg_one {i : Nat} {x : Val} {ε ε' : Env} (h : PutR i (.val x) ε ε') : TgR [i] x ε ε' := by
  unfold TgR tgs
  exact h
theorem tg_two {i j : Nat} {x y : Val} {ε ε1 ε' : Env} (h : PutR i (.val x) ε ε1) (h2 : PutR j (.val y) ε1 ε') : TgR [i, j] (.tup [x, y]) ε ε' := by
  unfold TgR tgs
  unfold PutR at h h2
  simp [tgs.go, h, h2]
theorem tg_three {i j k : Nat} {x y z : Val} {ε ε1 ε2 ε' : Env} (h : PutR i (.val x) ε ε1) (h2 : PutR j (.val y) ε1 ε2) (h3 : PutR k (.val z) ε2 ε') : TgR [i, j, k] (.tup [x, y, z]) ε ε' := by
  unfold TgR tgs
  unfold PutR at h h2 h3
  simp [tgs.go, h, h2, h3]
theorem reopen_shut (r : RV) (ε : Env) : reopen r ε (shut r ε) = ε := by
  cases r with
  | v d => rfl
  | o d => rfl
  | b i =>
    unfold reopen shut
    cases h : ε[i]? with
    | none => simp [h]
    | some s =>
      have hi : i < ε.length := by
        rcases Nat.lt_or_ge i ε.length with g | g
        · exact g
        · rw [List.getElem?_eq_none g] at h; cases h
      have e : ε[i] = s := by
        rw [List.getElem?_eq_getElem hi] at h
        cases h; rfl
      cases s with
      | un => simp [h]
      | val d => simp [h]
      | sh => simp [h]
      | own d =>
        simp only [h, List.set_set]
        rw [← e, List.set_getElem_self]
      | lent d =>
        simp only [h, List.set_set]
        rw [← e, List.set_getElem_self]
def fixed (r : RV) (ε : Env) : Bool := match r with
  | .b i => match ε[i]? with
    | some (.own _) => false
    | some (.lent _) => false
    | _ => true
  | _ => true
theorem fixed_shut {r : RV} {ε : Env} (h : fixed r ε = true) : shut r ε = ε := by
  cases r with
  | v d => rfl
  | o d => rfl
  | b i =>
    unfold fixed at h
    unfold shut
    cases e : ε[i]? with
    | none => simp [e]
    | some s => cases s <;> simp [e] at h ⊢
theorem fixed_reopen {r : RV} {ε : Env} (h : fixed r ε = true) (e' : Env) : reopen r ε e' = e' := by
  cases r with
  | v d => rfl
  | o d => rfl
  | b i =>
    unfold fixed at h
    unfold reopen
    cases e : ε[i]? with
    | none => simp [e]
    | some s => cases s <;> simp [e] at h ⊢
def bodyF (D : Tbl) (F : FT) (tg : List Nat) (body : Ss) (x : Val) (ε : Env) : Option (Out × Env) := match tgs tg x ε with
  | some ε1 => exB D F body ε1
  | none => none
def dcF (D : Tbl) (F : FT) (k v : E) (ε : Env) : Option ((Key × Val) × Env) := match vlR (evE D F k ε) with
  | some (d, ε1) => match keyOf d with
    | some k => match vlR (evE D F v ε1) with
      | some (x, ε2) => some ((k, x), ε2)
      | none => none
    | none => none
  | none => none
section
variable {D : Tbl} {F : FT} {ε : Env} {Q : RV → Env → Prop}
/-! ### comprehensions -/
theorem lcD_run {α : Type} (inj : α → Val) (p : α → Bool) (g : α → Val) {elt : E} {tg own : List Nat} {ifs : Es} (E0 : Env) : ∀ (xs : List α) (ε : Env) (acc : List Val), wipeE ε own = E0 →
    (∀ a ∈ xs, ∃ ε2, TgR tg (inj a) E0 ε2 ∧ WTs D F ifs ε2 fun b ε3 => b = p a ∧ IFB b (WV D F elt ε3 fun v ε4 => v = g a ∧ wipeE ε4 own = E0) (wipeE ε3 own = E0)) → acc.length + xs.length ≤ cap →
    ∃ ε', lcLoop tg own (evTs D F ifs) (fun ε => vlR (evE D F elt ε)) (xs.map inj) ε acc = some (acc ++ (xs.filter p).map g, ε') ∧ wipeE ε' own = E0
  | [], ε, acc, h, _, _ => ⟨ε, by simp [lcLoop], h⟩
  | a :: xs, ε, acc, h, hx, hl => by
    obtain ⟨ε2, h1, h2⟩ := hx a (by simp)
    unfold WTs at h2
    obtain ⟨b, ε3, h2, rfl, h3⟩ := h2
    unfold IFB at h3
    unfold TgR at h1
    have hz : acc.length < cap := by simp at hl; omega
    cases hp : p a with
    | false =>
      rw [hp] at h2 h3
      obtain ⟨ε', q1, q2⟩ := lcD_run inj p g E0 xs ε3 acc (h3.2 rfl) (fun z hz => hx z (by simp [hz])) (by simp at hl ⊢; omega)
      refine ⟨ε', ?_, q2⟩
      rw [List.map_cons]
      unfold lcLoop
      rw [h]
      simp only [h1, h2, q1]
      simp [hp]
    | true =>
      rw [hp] at h2 h3
      have h4 := h3.1 rfl
      unfold WV at h4
      obtain ⟨v, ε4, h4, rfl, h5⟩ := h4
      obtain ⟨ε', q1, q2⟩ := lcD_run inj p g E0 xs ε4 (acc ++ [g a]) h5 (fun z hz => hx z (by simp [hz])) (by simp at hl ⊢; omega)
      refine ⟨ε', ?_, q2⟩
      rw [List.map_cons]
      unfold lcLoop
      rw [h]
      simp only [h1, h2, h4, hz, if_true, q1]
      simp [hp]
theorem we_lcD {α : Type} (xs' : List α) (inj : α → Val) (p : α → Bool) (g : α → Val) {elt : E} {tg own : List Nat} {it : It} {ifs : Es}
    (h : WI D F it ε fun r xs ε1 => xs = xs'.map inj ∧ xs'.length ≤ cap ∧ (∃ E0, WipeR (shut r ε1) own E0 ∧ ∀ a ∈ xs', ∃ ε2, TgR tg (inj a) E0 ε2 ∧ WTs D F ifs ε2 fun b ε3 => b = p a ∧ IFB b (WV D F elt ε3 fun v ε4 => v = g a ∧ wipeE ε4 own = E0) (wipeE ε3 own = E0)) ∧ Q (.o (.lst ((xs'.filter p).map g))) ε1) :
    WE D F (.lc elt tg it ifs own) ε Q := by
  unfold WI at h; unfold WE
  obtain ⟨r, xs, ε1, h1, rfl, hl, ⟨E0, hw, hx⟩, q⟩ := h
  obtain ⟨ε', q1, q2⟩ := lcD_run inj p g E0 xs' (shut r ε1) [] hw hx (by simpa using hl)
  refine ⟨_, _, ?_, q⟩
  unfold evE
  rw [h1]
  simp only [q1]
  unfold WipeR at hw
  rw [restE_same (q2.trans hw.symm), reopen_shut]
  rfl
theorem dcD_run {α : Type} (inj : α → Val) (p : α → Bool) (gk : α → Key) (g : α → Val) {k v : E} {tg own : List Nat} {ifs : Es} (E0 : Env) : ∀ (xs : List α) (ε : Env) (acc : List (Key × Val)) (m : Nat), wipeE ε own = E0 → acc.length ≤ m →
    (∀ a ∈ xs, ∃ ε2, TgR tg (inj a) E0 ε2 ∧ WTs D F ifs ε2 fun b ε3 => b = p a ∧ IFB b (WV D F k ε3 fun u ε4 => keyOf u = some (gk a) ∧ WV D F v ε4 fun w ε5 => w = g a ∧ wipeE ε5 own = E0) (wipeE ε3 own = E0)) → m + xs.length ≤ cap →
    ∃ ε', dcLoop tg own (evTs D F ifs) (dcF D F k v) (xs.map inj) ε acc = some ((xs.filter p).foldl (fun acc a => dput acc (gk a) (g a)) acc, ε') ∧ wipeE ε' own = E0
  | [], ε, acc, m, h, _, _, _ => ⟨ε, by simp [dcLoop], h⟩
  | a :: xs, ε, acc, m, h, hm, hx, hl => by
    obtain ⟨ε2, h1, h2⟩ := hx a (by simp)
    unfold WTs at h2
    obtain ⟨b, ε3, h2, rfl, h3⟩ := h2
    unfold IFB at h3
    unfold TgR at h1
    have hz : acc.length < cap := by simp at hl; omega
    cases hp : p a with
    | false =>
      rw [hp] at h2 h3
      obtain ⟨ε', q1, q2⟩ := dcD_run inj p gk g E0 xs ε3 acc m (h3.2 rfl) hm (fun z hz => hx z (by simp [hz])) (by simp at hl; omega)
      refine ⟨ε', ?_, q2⟩
      rw [List.map_cons]
      unfold dcLoop
      rw [h]
      simp only [h1, h2, q1]
      simp [hp]
    | true =>
      rw [hp] at h2 h3
      have h4 := h3.1 rfl
      unfold WV at h4
      obtain ⟨u, ε4, h4, hk, w, ε5, h5, rfl, h6⟩ := h4
      have hd : (dput acc (gk a) (g a)).length ≤ m + 1 := by
        unfold dput
        split
        · simp; omega
        · simp; omega
      obtain ⟨ε', q1, q2⟩ := dcD_run inj p gk g E0 xs ε5 (dput acc (gk a) (g a)) (m + 1) h6 hd (fun z hz => hx z (by simp [hz])) (by simp at hl; omega)
      refine ⟨ε', ?_, q2⟩
      rw [List.map_cons]
      unfold dcLoop
      rw [h]
      have hd2 : dcF D F k v ε3 = some ((gk a, g a), ε5) := by
        unfold dcF
        simp only [h4, hk, h5]
      simp only [h1, h2, hd2, hz, if_true, q1]
      simp [hp]
theorem we_dcD {α : Type} (xs' : List α) (inj : α → Val) (p : α → Bool) (gk : α → Key) (g : α → Val) {k v : E} {tg own : List Nat} {it : It} {ifs : Es}
    (h : WI D F it ε fun r xs ε1 => xs = xs'.map inj ∧ xs'.length ≤ cap ∧ (∃ E0, WipeR (shut r ε1) own E0 ∧ ∀ a ∈ xs', ∃ ε2, TgR tg (inj a) E0 ε2 ∧ WTs D F ifs ε2 fun b ε3 => b = p a ∧ IFB b (WV D F k ε3 fun u ε4 => keyOf u = some (gk a) ∧ WV D F v ε4 fun w ε5 => w = g a ∧ wipeE ε5 own = E0) (wipeE ε3 own = E0)) ∧ Q (.o (.dct ((xs'.filter p).foldl (fun acc a => dput acc (gk a) (g a)) []))) ε1) :
    WE D F (.dc k v tg it ifs own) ε Q := by
  unfold WI at h; unfold WE
  obtain ⟨r, xs, ε1, h1, rfl, hl, ⟨E0, hw, hx⟩, q⟩ := h
  obtain ⟨ε', q1, q2⟩ := dcD_run inj p gk g E0 xs' (shut r ε1) [] 0 hw (Nat.le_refl _) hx (by omega)
  refine ⟨_, _, ?_, q⟩
  unfold evE
  rw [h1]
  show (match dcLoop tg own (evTs D F ifs) (dcF D F k v) (List.map inj xs') (shut r ε1) [] with
    | some (ys, ε2) => some (RV.o (Val.dct ys), reopen r ε1 (restE (shut r ε1) ε2 own))
    | none => none) = _
  rw [q1]
  show some (RV.o (Val.dct _), reopen r ε1 (restE (shut r ε1) ε' own)) = _
  unfold WipeR at hw
  rw [restE_same (q2.trans hw.symm), reopen_shut]
/-- a comprehension that draws: I holds of what was made and of the slots -/
theorem lcS_run {elt : E} {tg own : List Nat} {ifs : Es} (I : Nat → List Val → Env → Prop) : ∀ (xs : List Val) (i : Nat) (ε : Env) (acc : List Val), I i acc ε →
    (∀ j x acc ε, xs[j]? = some x → I (i + j) acc ε → ∃ ε0 ε2, WipeR ε own ε0 ∧ TgR tg x ε0 ε2 ∧ WTs D F ifs ε2 fun b ε3 => IFB b (WV D F elt ε3 fun v ε4 => I (i + j + 1) (acc ++ [v]) ε4) (I (i + j + 1) acc ε3)) → acc.length + xs.length ≤ cap →
    ∃ ys ε', lcLoop tg own (evTs D F ifs) (fun ε => vlR (evE D F elt ε)) xs ε acc = some (ys, ε') ∧ I (i + xs.length) ys ε'
  | [], i, ε, acc, h, _, _ => ⟨acc, ε, by simp [lcLoop], h⟩
  | x :: xs, i, ε, acc, h, hx, hl => by
    obtain ⟨ε0, ε2, hw, h1, h2⟩ := hx 0 x acc ε rfl h
    unfold WTs at h2
    obtain ⟨b, ε3, h2, h3⟩ := h2
    unfold IFB at h3
    unfold TgR at h1
    unfold WipeR at hw
    have hz : acc.length < cap := by simp at hl; omega
    have hx' : ∀ j y acc ε, xs[j]? = some y → I (i + 1 + j) acc ε → ∃ ε0 ε2, WipeR ε own ε0 ∧ TgR tg y ε0 ε2 ∧ WTs D F ifs ε2 fun b ε3 => IFB b (WV D F elt ε3 fun v ε4 => I (i + 1 + j + 1) (acc ++ [v]) ε4) (I (i + 1 + j + 1) acc ε3) := fun j y acc ε hy hi => by
      have := hx (j + 1) y acc ε (by simpa using hy) (by rw [show i + (j + 1) = i + 1 + j by omega]; exact hi)
      rw [show i + (j + 1) + 1 = i + 1 + j + 1 by omega] at this
      exact this
    have hlen : i + (x :: xs).length = i + 1 + xs.length := by simp; omega
    cases b with
    | false =>
      obtain ⟨ys, ε', q1, q2⟩ := lcS_run I xs (i + 1) ε3 acc (h3.2 rfl) hx' (by simp at hl ⊢; omega)
      refine ⟨ys, ε', ?_, by rw [hlen]; exact q2⟩
      unfold lcLoop
      simp only [hw, h1, h2, q1]
    | true =>
      have h4 := h3.1 rfl
      unfold WV at h4
      obtain ⟨v, ε4, h4, h5⟩ := h4
      obtain ⟨ys, ε', q1, q2⟩ := lcS_run I xs (i + 1) ε4 (acc ++ [v]) h5 hx' (by simp at hl ⊢; omega)
      refine ⟨ys, ε', ?_, by rw [hlen]; exact q2⟩
      unfold lcLoop
      simp only [hw, h1, h2, h4, hz, if_true, q1]
theorem we_lcS (I : Nat → List Val → Env → Prop) {elt : E} {tg own : List Nat} {it : It} {ifs : Es}
    (h : WI D F it ε fun r xs ε1 => fixed r ε1 = true ∧ xs.length ≤ cap ∧ I 0 [] ε1 ∧ (∀ j x acc ε, xs[j]? = some x → I j acc ε → ∃ ε0 ε2, WipeR ε own ε0 ∧ TgR tg x ε0 ε2 ∧ WTs D F ifs ε2 fun b ε3 => IFB b (WV D F elt ε3 fun v ε4 => I (j + 1) (acc ++ [v]) ε4) (I (j + 1) acc ε3)) ∧ ∀ ys ε2, I xs.length ys ε2 → Q (.o (.lst ys)) (restE ε1 ε2 own)) :
    WE D F (.lc elt tg it ifs own) ε Q := by
  unfold WI at h; unfold WE
  obtain ⟨r, xs, ε1, h1, hf, hl, hi, hx, q⟩ := h
  obtain ⟨ys, ε', q1, q2⟩ := lcS_run I xs 0 ε1 [] hi (fun j x acc ε hj => by rw [Nat.zero_add]; exact hx j x acc ε hj) (by simpa using hl)
  rw [Nat.zero_add] at q2
  refine ⟨_, _, ?_, q ys ε' q2⟩
  unfold evE
  rw [h1]
  simp only [fixed_shut hf, q1]
  rw [fixed_reopen hf]
/-! ### statements -/
variable {N : Env → Prop} {R : RV → Env → Prop} {B C : Env → Prop}
theorem wb_nil (n : N ε) : WB D F .nil ε N R B C := by
  unfold WB; exact ⟨_, _, xb_nil0, n⟩
theorem wb_cons {s : S} {ss : Ss} (h : WS D F s ε (fun ε1 => WB D F ss ε1 N R B C) R B C) : WB D F (.cons s ss) ε N R B C := by
  unfold WS at h; unfold WB at h ⊢
  obtain ⟨o, ε1, h1, h⟩ := h
  cases o with
  | nx =>
    obtain ⟨o, ε2, h2, q⟩ := h
    exact ⟨o, ε2, by rw [xb_cons1, h1]; exact h2, q⟩
  | rt r => exact ⟨.rt r, ε1, by rw [xb_cons1, h1], h⟩
  | bk => exact ⟨.bk, ε1, by rw [xb_cons1, h1], h⟩
  | ct => exact ⟨.ct, ε1, by rw [xb_cons1, h1], h⟩
theorem wb_cut (P : Env → Prop) {s : S} {ss : Ss} (h : WS D F s ε P R B C) (h2 : ∀ ε1, P ε1 → WB D F ss ε1 N R B C) : WB D F (.cons s ss) ε N R B C := by
  refine wb_cons ?_
  unfold WS at h ⊢
  obtain ⟨o, ε1, h1, h⟩ := h
  refine ⟨o, ε1, h1, ?_⟩
  cases o with
  | nx => exact h2 ε1 h
  | rt r => exact h
  | bk => exact h
  | ct => exact h
theorem we_cut (P : RV → Env → Prop) {e : E} (h : WE D F e ε P) (h2 : ∀ r ε1, P r ε1 → Q r ε1) : WE D F e ε Q := by
  unfold WE at h ⊢
  obtain ⟨r, ε1, h1, h⟩ := h
  exact ⟨r, ε1, h1, h2 r ε1 h⟩
theorem wt_cut (P : Bool → Env → Prop) {Q : Bool → Env → Prop} {e : E} (h : WT D F e ε P) (h2 : ∀ r ε1, P r ε1 → Q r ε1) : WT D F e ε Q := by
  unfold WT at h ⊢
  obtain ⟨r, ε1, h1, h⟩ := h
  exact ⟨r, ε1, h1, h2 r ε1 h⟩
theorem ws_exp {e : E} (h : WE D F e ε fun _ ε1 => N ε1) : WS D F (.exp e) ε N R B C := by
  unfold WE at h; unfold WS
  obtain ⟨r, ε1, h, q⟩ := h
  exact ⟨.nx, ε1, by rw [xs_exp, h], q⟩
theorem ws_asg {i : Nat} {e : E} (h : WE D F e ε fun r ε1 => STO i r ε1 N) : WS D F (.asg i e) ε N R B C := by
  unfold WE at h; unfold WS
  obtain ⟨r, ε1, h, q⟩ := h
  unfold STO at q
  obtain ⟨ε2, h2, q⟩ := q
  exact ⟨.nx, ε2, by rw [xs_asg]; simp only [h, h2], q⟩
theorem ws_asgT {ts : List Tg} {e : E} (h : WV D F e ε fun d ε1 => TUPN d ts.length fun ds => TGS D F ts ds ε1 N) : WS D F (.asgT ts e) ε N R B C := by
  unfold WV at h; unfold WS
  obtain ⟨r, ε1, h, ds, rfl, hl, q⟩ := h
  unfold TGS at q
  obtain ⟨ε2, h2, q⟩ := q
  exact ⟨.nx, ε2, by rw [xs_asgT]; simp only [h, hl, if_true, h2], q⟩
theorem tgw_nil (n : N ε) : TGS D F [] [] ε N := by
  unfold TGS; exact ⟨ε, rfl, n⟩
theorem tgw_nm {i : Nat} {d : Val} {ts : List Tg} {ds : List Val} {ε1 : Env} (h : PutR i (.val d) ε ε1) (n : TGS D F ts ds ε1 N) : TGS D F (.nm i :: ts) (d :: ds) ε N := by
  unfold TGS at n ⊢
  obtain ⟨ε2, h2, n⟩ := n
  refine ⟨ε2, ?_, n⟩
  unfold tgsV
  have : tgV D F (.nm i) d ε = some ε1 := by unfold tgV; exact h
  rw [this]
  exact h2
theorem tgw_sub {o i : E} {v : Val} {ts : List Tg} {ds : List Val} (h : WE D F o ε fun x ε1 => WE D F i ε1 fun y ε2 => LK x ε2 fun d => LK y ε2 fun k => SM (setItem d k v) fun d' => WRT x d' ε2 fun ε3 => TGS D F ts ds ε3 N) : TGS D F (.sub o i :: ts) (v :: ds) ε N := by
  unfold WE at h
  obtain ⟨x, ε1, h1, y, ε2, h2, h⟩ := h
  unfold LK WRT at h
  obtain ⟨d, h3, k, h4, d', h5, ε3, h6, h⟩ := h
  unfold TGS at h ⊢
  obtain ⟨ε4, h7, n⟩ := h
  refine ⟨ε4, ?_, n⟩
  unfold tgsV tgV
  simp only [h1, h2, h3, h4, h5, h6, h7]
theorem ws_par {is : List Nat} {es : Es} (h : WA D F es ε fun rs ε1 => SM (parS rs ε1) fun ss => STOS is ss ε1 N) : WS D F (.par is es) ε N R B C := by
  unfold WA at h; unfold WS
  obtain ⟨r, ε1, h, ss, h1, q⟩ := h
  unfold STOS at q
  obtain ⟨ε2, h2, q⟩ := q
  exact ⟨.nx, ε2, by rw [xs_par]; simp only [h, h1, h2], q⟩
theorem ws_fldS {o : E} {f : Str} {e : E} (h : WV D F e ε fun v ε1 => WE D F o ε1 fun x ε2 => LK x ε2 fun d => SM (setFld D f v d) fun d' => WRT x d' ε2 N) : WS D F (.fldS o f e) ε N R B C := by
  unfold WV at h; unfold WS
  obtain ⟨v, ε1, h1, h⟩ := h
  unfold WE at h
  obtain ⟨x, ε2, h2, h⟩ := h
  unfold LK WRT at h
  obtain ⟨d, h3, d', h4, ε3, h5, q⟩ := h
  exact ⟨.nx, ε3, by rw [xs_fldS]; simp only [h1, h2, h3, h4, h5], q⟩
theorem ws_subS {o i : E} {e : E} (h : WV D F e ε fun v ε1 => WE D F o ε1 fun x ε2 => WE D F i ε2 fun y ε3 => LK x ε3 fun d => LK y ε3 fun k => SM (setItem d k v) fun d' => WRT x d' ε3 N) : WS D F (.subS o i e) ε N R B C := by
  unfold WV at h; unfold WS
  obtain ⟨v, ε1, h1, h⟩ := h
  unfold WE at h
  obtain ⟨x, ε2, h2, y, ε3, h3, h⟩ := h
  unfold LK WRT at h
  obtain ⟨d, h4, k, h5, d', h6, ε4, h7, q⟩ := h
  refine ⟨.nx, ε4, ?_, q⟩
  rw [xs_subS]
  unfold tgV
  simp only [h1, h2, h3, h4, h5, h6, h7]
def lstOf : Option Val → Option (List Val)
  | some (.lst xs) => some xs
  | _ => none
theorem lstOf_eq {o : Option Val} {xs : List Val} (h : lstOf o = some xs) : o = some (.lst xs) := by
  unfold lstOf at h
  split at h
  · cases h; rfl
  · cases h
theorem ws_app {i : Nat} {e : E} (hl : isLst (look (.b i) ε) = true) (h : WV D F e ε fun v ε1 => SM (lstOf (look (.b i) ε1)) fun xs => xs.length < cap ∧ WRT (.b i) (.lst (xs ++ [v])) ε1 N) : WS D F (.app i e) ε N R B C := by
  unfold WV at h; unfold WS
  obtain ⟨v, ε1, h1, xs, h2, h3, h⟩ := h
  have h2 := lstOf_eq h2
  unfold WRT at h
  obtain ⟨ε2, h4, q⟩ := h
  exact ⟨.nx, ε2, by rw [xs_app]; simp only [hl, if_true, h1, h2, h3, h4], q⟩
theorem ws_ife {c : E} {a b : Ss} (h : WT D F c ε fun t ε1 => IFB t (WB D F a ε1 N R B C) (WB D F b ε1 N R B C)) : WS D F (.ife c a b) ε N R B C := by
  unfold WT at h; unfold WS
  obtain ⟨t, ε1, h1, h⟩ := h
  unfold IFB WB at h
  cases t with
  | true =>
    obtain ⟨o, ε2, h2, q⟩ := h.1 rfl
    exact ⟨o, ε2, by rw [xs_ife]; simp only [h1, h2], q⟩
  | false =>
    obtain ⟨o, ε2, h2, q⟩ := h.2 rfl
    exact ⟨o, ε2, by rw [xs_ife]; simp only [h1, h2], q⟩
theorem ws_ret {e : E} (h : WE D F e ε fun r ε1 => MV r ε1 R) : WS D F (.ret e) ε N R B C := by
  unfold WE at h; unfold WS
  obtain ⟨r, ε1, h, q⟩ := h
  unfold MV at q
  obtain ⟨r2, ε2, h2, q⟩ := q
  exact ⟨.rt r2, ε2, by rw [xs_ret]; simp only [h, h2], q⟩
theorem ws_retN (q : R (.v .non) ε) : WS D F .retN ε N R B C := by
  unfold WS; exact ⟨_, _, xs_retN, q⟩
theorem ws_pass (n : N ε) : WS D F .pass ε N R B C := by
  unfold WS; exact ⟨_, _, xs_pass, n⟩
theorem ws_brk (n : B ε) : WS D F .brk ε N R B C := by
  unfold WS; exact ⟨_, _, xs_brk, n⟩
theorem ws_cont (n : C ε) : WS D F .cont ε N R B C := by
  unfold WS; exact ⟨_, _, xs_cont, n⟩
/-! ### loops -/
theorem loop_run {tg : List Nat} {body : Ss} (I : Nat → Env → Prop) : ∀ (xs : List Val) (i : Nat) (ε : Env), I i ε →
    (∀ j x ε, xs[j]? = some x → I (i + j) ε → ∃ ε1, TgR tg x ε ε1 ∧ WB D F body ε1 (I (i + j + 1)) R N (I (i + j + 1))) →
    ∃ o ε', loopF (bodyF D F tg body) xs ε = some (o, ε') ∧ OutP (fun ε' => I (i + xs.length) ε' ∨ N ε') R (fun _ => False) (fun _ => False) o ε'
  | [], i, ε, h, _ => ⟨.nx, ε, rfl, .inl h⟩
  | x :: xs, i, ε, h, hs => by
    obtain ⟨ε1, h1, h2⟩ := hs 0 x ε rfl h
    unfold TgR at h1
    unfold WB at h2
    obtain ⟨o, ε2, h2, h3⟩ := h2
    have hx' : ∀ j y ε, xs[j]? = some y → I (i + 1 + j) ε → ∃ ε1, TgR tg y ε ε1 ∧ WB D F body ε1 (I (i + 1 + j + 1)) R N (I (i + 1 + j + 1)) := fun j y e hy hi => by
      have := hs (j + 1) y e (by simpa using hy) (by rw [show i + (j + 1) = i + 1 + j by omega]; exact hi)
      rw [show i + (j + 1) + 1 = i + 1 + j + 1 by omega] at this
      exact this
    have hlen : i + (x :: xs).length = i + 1 + xs.length := by simp; omega
    rw [hlen]
    cases o with
    | nx =>
      obtain ⟨o, ε', q1, q2⟩ := loop_run I xs (i + 1) ε2 h3 hx'
      refine ⟨o, ε', ?_, q2⟩
      unfold loopF
      have hb := (show bodyF D F tg body x ε = exB D F body ε1 by unfold bodyF; simp only [h1]).trans h2
      simp only [hb, q1]
    | ct =>
      obtain ⟨o, ε', q1, q2⟩ := loop_run I xs (i + 1) ε2 h3 hx'
      refine ⟨o, ε', ?_, q2⟩
      unfold loopF
      have hb := (show bodyF D F tg body x ε = exB D F body ε1 by unfold bodyF; simp only [h1]).trans h2
      simp only [hb, q1]
    | bk =>
      refine ⟨.nx, ε2, ?_, .inr h3⟩
      unfold loopF
      have hb := (show bodyF D F tg body x ε = exB D F body ε1 by unfold bodyF; simp only [h1]).trans h2
      simp only [hb]
    | rt r =>
      refine ⟨.rt r, ε2, ?_, h3⟩
      unfold loopF
      have hb := (show bodyF D F tg body x ε = exB D F body ε1 by unfold bodyF; simp only [h1]).trans h2
      simp only [hb]
theorem ws_for (I : Nat → Env → Prop) {tg : List Nat} {it : It} {body : Ss}
    (h : WI D F it ε fun r xs ε1 => I 0 (shut r ε1) ∧ (∀ j x ε2, xs[j]? = some x → I j ε2 → ∃ ε3, TgR tg x ε2 ε3 ∧ WB D F body ε3 (I (j + 1)) (fun r' ε4 => R r' (reopen r ε1 ε4)) (fun ε4 => N (reopen r ε1 ε4)) (I (j + 1))) ∧ ∀ ε2, I xs.length ε2 → N (reopen r ε1 ε2)) :
    WS D F (.for_ tg it body) ε N R B C := by
  unfold WI at h; unfold WS
  obtain ⟨r, xs, ε1, h1, h0, hs, hn⟩ := h
  obtain ⟨o, ε2, h2, q⟩ := loop_run (R := fun r' ε4 => R r' (reopen r ε1 ε4)) (N := fun ε4 => N (reopen r ε1 ε4)) I xs 0 (shut r ε1) h0 (fun j x e hj => by rw [Nat.zero_add]; exact hs j x e hj)
  rw [Nat.zero_add] at q
  refine ⟨o, reopen r ε1 ε2, ?_, ?_⟩
  · unfold exS
    rw [h1]
    show (match loopF (bodyF D F tg body) xs (shut r ε1) with
      | some (o, ε2) => some (o, reopen r ε1 ε2)
      | none => none) = _
    rw [h2]
  · cases o with
    | nx =>
      rcases q with q | q
      · exact hn ε2 q
      · exact q
    | rt r' => exact q
    | bk => exact q.elim
    | ct => exact q.elim
theorem ws_forF (I : Nat → Env → Prop) {tg : List Nat} {it : It} {body : Ss}
    (h : WI D F it ε fun r xs ε1 => fixed r ε1 = true ∧ I 0 ε1 ∧ (∀ j x ε2, xs[j]? = some x → I j ε2 → ∃ ε3, TgR tg x ε2 ε3 ∧ WB D F body ε3 (I (j + 1)) R N (I (j + 1))) ∧ ∀ ε2, I xs.length ε2 → N ε2) :
    WS D F (.for_ tg it body) ε N R B C := by
  refine ws_for I ?_
  unfold WI at h ⊢
  obtain ⟨r, xs, ε1, h1, hf, h0, hs, hn⟩ := h
  refine ⟨r, xs, ε1, h1, by rw [fixed_shut hf]; exact h0, fun j x ε2 hj hi => ?_, fun ε2 h => by rw [fixed_reopen hf]; exact hn ε2 h⟩
  obtain ⟨ε3, g1, g2⟩ := hs j x ε2 hj hi
  refine ⟨ε3, g1, ?_⟩
  have e1 : (fun r' ε4 => R r' (reopen r ε1 ε4)) = R := funext fun r' => funext fun ε4 => by rw [fixed_reopen hf]
  have e2 : (fun ε4 => N (reopen r ε1 ε4)) = N := funext fun ε4 => by rw [fixed_reopen hf]
  rw [e1, e2]
  exact g2
theorem while_run {c : E} {body : Ss} (I : Nat → Env → Prop)
    (hs : ∀ m ε, I m ε → WT D F c ε fun b ε1 => IFB b (WB D F body ε1 (fun ε2 => ∃ m', m' < m ∧ I m' ε2) R N (fun ε2 => ∃ m', m' < m ∧ I m' ε2)) (N ε1)) : ∀ (fuel m : Nat) (ε : Env), I m ε → m < fuel →
    ∃ o ε', whileF (fun ε => tsR (evE D F c ε)) (fun ε => exB D F body ε) fuel ε = some (o, ε') ∧ OutP N R (fun _ => False) (fun _ => False) o ε'
  | 0, m, ε, _, h => by omega
  | fuel + 1, m, ε, hi, hm => by
    have h := hs m ε hi
    unfold WT at h
    obtain ⟨b, ε1, h1, h⟩ := h
    unfold IFB at h
    cases b with
    | false => exact ⟨.nx, ε1, by unfold whileF; simp only [h1], h.2 rfl⟩
    | true =>
      have h := h.1 rfl
      unfold WB at h
      obtain ⟨o, ε2, h2, q⟩ := h
      cases o with
      | nx =>
        obtain ⟨m', hm', hi'⟩ := q
        obtain ⟨o, ε3, h3, q⟩ := while_run I hs fuel m' ε2 hi' (by omega)
        exact ⟨o, ε3, by unfold whileF; simp only [h1, h2, h3], q⟩
      | ct =>
        obtain ⟨m', hm', hi'⟩ := q
        obtain ⟨o, ε3, h3, q⟩ := while_run I hs fuel m' ε2 hi' (by omega)
        exact ⟨o, ε3, by unfold whileF; simp only [h1, h2, h3], q⟩
      | bk => exact ⟨.nx, ε2, by unfold whileF; simp only [h1, h2], q⟩
      | rt r => exact ⟨.rt r, ε2, by unfold whileF; simp only [h1, h2], q⟩
theorem ws_while (I : Nat → Env → Prop) (n : Nat) {c : E} {body : Ss} (hn : n < D.wf) (h0 : I n ε)
    (hs : ∀ m ε, I m ε → WT D F c ε fun b ε1 => IFB b (WB D F body ε1 (fun ε2 => ∃ m', m' < m ∧ I m' ε2) R N (fun ε2 => ∃ m', m' < m ∧ I m' ε2)) (N ε1)) :
    WS D F (.while_ c body) ε N R B C := by
  obtain ⟨o, ε', h1, q⟩ := while_run (D := D) (F := F) (N := N) (R := R) I hs D.wf n ε h0 hn
  unfold WS
  refine ⟨o, ε', ?_, ?_⟩
  · unfold exS
    exact h1
  · cases o with
    | nx => exact q
    | rt r => exact q
    | bk => exact q.elim
    | ct => exact q.elim
/-! ### functions -/
theorem wc_fn {f : List Arg → Option (RV × List Val)} {r : FnR} {as : List Arg} {Q : RV → List Val → Prop} {ε0 : Env} (hF : f as = runFn D F r as) (hl : as.length = r.np) (hs : startE r as = ε0)
    (h : WB D F r.body ε0 (fun ε => OUTS as ε fun ds => Q (.v .non) ds) (fun x ε => OUTS as ε fun ds => Q x ds) (fun _ => False) (fun _ => False)) : WC f as Q := by
  unfold WB at h; unfold WC
  obtain ⟨o, ε', h1, h⟩ := h
  rw [hF]
  unfold runFn
  rw [if_pos hl, hs, h1]
  cases o with
  | nx =>
    have h : OUTS as ε' fun ds => Q (.v .non) ds := h
    unfold OUTS at h
    obtain ⟨ds, h2, q⟩ := h
    exact ⟨_, _, by simp only [h2], q⟩
  | rt x =>
    have h : OUTS as ε' fun ds => Q x ds := h
    unfold OUTS at h
    obtain ⟨ds, h2, q⟩ := h
    exact ⟨_, _, by simp only [h2], q⟩
  | bk => exact h.elim
  | ct => exact h.elim
end
end Eng
end
section
set_option Elab.async false
set_option linter.all false
set_option maxRecDepth 100000
set_option maxHeartbeats 4000000
namespace Eng
open PySem L2
section
variable {P : RV → Prop} {i j : Int} {xs ys : List Val} {a b : Str}
theorem bo_addI (p : P (.v (.int (i + j)))) : BO .Add (.int i) (.int j) P := bo_of rfl p
theorem bo_subI (p : P (.v (.int (i - j)))) : BO .Sub (.int i) (.int j) P := bo_of rfl p
theorem bo_mulI (h : (small64 i || small64 j) = true) (p : P (.v (.int (i * j)))) : BO .Mult (.int i) (.int j) P := bo_of (by simp only [binop, h, if_true]) p
theorem bo_fdiv (h : isNat31 j = true) (p : P (.v (.int (i / j)))) : BO .FloorDiv (.int i) (.int j) P := bo_of (by simp only [binop, h, if_true]) p
theorem bo_mod (h : 0 < j) (p : P (.v (.int (i % j)))) : BO .Mod (.int i) (.int j) P := bo_of (by simp only [binop, h, if_true]) p
theorem bo_addS (h : a.length + b.length ≤ cap) (p : P (.v (.str (a ++ b)))) : BO .Add (.str a) (.str b) P := bo_of (by simp only [binop, h, if_true]) p
theorem bo_addT (h : xs.length + ys.length ≤ cap) (p : P (.v (.tup (xs ++ ys)))) : BO .Add (.tup xs) (.tup ys) P := bo_of (by simp only [binop, h, if_true]) p
theorem bo_addL (h : xs.length + ys.length ≤ cap) (p : P (.o (.lst (xs ++ ys)))) : BO .Add (.lst xs) (.lst ys) P := bo_of (by simp only [binop, h, if_true]) p
theorem binop_mulT {v : Val} {k : Int} (h0 : 0 ≤ k) (h1 : k ≤ 1000) : binop .Mult (.tup [v]) (.int k) = some (.v (.tup (List.replicate k.toNat v))) := by
  have h2 : (0 : Int) ≤ k ∧ k ≤ 1000 ∧ [v].length ≤ 1000 := ⟨h0, h1, Nat.succ_le_succ (Nat.zero_le _)⟩
  have e : binop .Mult (.tup [v]) (.int k) = if (0 : Int) ≤ k ∧ k ≤ 1000 ∧ [v].length ≤ 1000 then some (.v (.tup (List.replicate k.toNat [v]).flatten)) else none := rfl
  rw [e, if_pos h2]
  simp
theorem bo_mulT {v : Val} {k : Int} (h0 : 0 ≤ k) (h1 : k ≤ 1000) (p : P (.v (.tup (List.replicate k.toNat v)))) : BO .Mult (.tup [v]) (.int k) P := bo_of (binop_mulT h0 h1) p
theorem bo_powI (h0 : 0 ≤ j) (h1 : j ≤ 1000) (h2 : small64 i = true) (p : P (.v (.int (i ^ j.toNat)))) : BO .Pow (.int i) (.int j) P := bo_of (by simp only [binop, h0, h1, h2, and_self, if_true]) p
end
section
variable {T : List (List (Str × Val))} {P : Bool → Prop} {i j : Int} {a b : Str} {v : Val}
theorem cm_ltI (p : P (decide (i < j))) : CM T .Lt (.int i) (.int j) P := cm_of rfl p
theorem cm_leI (p : P (decide (i ≤ j))) : CM T .LtE (.int i) (.int j) P := cm_of rfl p
theorem cm_gtI (p : P (decide (j < i))) : CM T .Gt (.int i) (.int j) P := cm_of rfl p
theorem cm_geI (p : P (decide (j ≤ i))) : CM T .GtE (.int i) (.int j) P := cm_of rfl p
theorem cm_eqI (p : P (i == j)) : CM T .Eq (.int i) (.int j) P := cm_of rfl p
theorem cm_neI (p : P (!(i == j))) : CM T .NotEq (.int i) (.int j) P := cm_of rfl p
theorem cm_eqS (p : P (a == b)) : CM T .Eq (.str a) (.str b) P := cm_of rfl p
theorem cm_neS (p : P (!(a == b))) : CM T .NotEq (.str a) (.str b) P := cm_of rfl p
theorem cm_isN (p : P (isNonV v)) : CM T .Is v .non P := cm_of rfl p
theorem cm_isnotN (p : P (!isNonV v)) : CM T .IsNot v .non P := cm_of rfl p
theorem cm_inD {kvs : List (Key × Val)} {k : Key} (h : keyOf v = some k) (p : P (dget kvs k).isSome) : CM T .In v (.dct kvs) P := cm_of (by simp only [cmpo, cmpop, h]) p
theorem cm_ninD {kvs : List (Key × Val)} {k : Key} (h : keyOf v = some k) (p : P (!(dget kvs k).isSome)) : CM T .NotIn v (.dct kvs) P := cm_of (by simp only [cmpo, cmpop, h]) p
theorem vin_strs (s : Str) (l : List Str) : vin (.str s) (l.map .str) = some (decide (s ∈ l)) := by
  unfold vin
  have h1 : (l.map Val.str).all scalV = true := by simp [scalV]
  rw [h1]
  simp only [scalV, Bool.and_true, if_true]
  congr 1
  rw [List.any_map]
  induction l with
  | nil => rfl
  | cons t l ih =>
    rw [List.any_cons, ih (by simp [scalV])]
    simp only [Function.comp, veqB, List.mem_cons]
    rw [Bool.eq_iff_iff, Bool.or_eq_true, beq_iff_eq, decide_eq_true_eq, decide_eq_true_eq]
    constructor
    · rintro (h | h)
      · exact .inl h.symm
      · exact .inr h
    · rintro (h | h)
      · exact .inl h.symm
      · exact .inr h
theorem cm_inTS {l : List Str} (p : P (decide (a ∈ l))) : CM T .In (.str a) (.tup (l.map .str)) P := cm_of (vin_strs a l) p
theorem cm_inLS {l : List Str} (p : P (decide (a ∈ l))) : CM T .In (.str a) (.lst (l.map .str)) P := cm_of (vin_strs a l) p
theorem cm_ninTS {l : List Str} (p : P (!decide (a ∈ l))) : CM T .NotIn (.str a) (.tup (l.map .str)) P := cm_of (by simp only [cmpo, cmpop, vin_strs, Option.map]) p
theorem cm_ninLS {l : List Str} (p : P (!decide (a ∈ l))) : CM T .NotIn (.str a) (.lst (l.map .str)) P := cm_of (by simp only [cmpo, cmpop, vin_strs, Option.map]) p
end
theorem atI_lit {xs : List Val} {n : Nat} {y : Val} (h : xs[n]? = some y) : L2.atI xs (n : Int) = some y := by
  have hn : n < xs.length := by
    rcases Nat.lt_or_ge n xs.length with g | g
    · exact g
    · rw [List.getElem?_eq_none g] at h; cases h
  unfold L2.atI L2.ixN
  rw [if_pos (by omega), if_pos (by omega)]
  simpa using h
theorem atI_c0 {x : Val} {xs : List Val} : L2.atI (x :: xs) 0 = some x := atI_lit (n := 0) rfl
theorem atI_c1 {x y : Val} {xs : List Val} : L2.atI (x :: y :: xs) 1 = some y := atI_lit (n := 1) rfl
theorem atI_c2 {x y z : Val} {xs : List Val} : L2.atI (x :: y :: z :: xs) 2 = some z := atI_lit (n := 2) rfl
theorem atI_c3 {x y z u : Val} {xs : List Val} : L2.atI (x :: y :: z :: u :: xs) 3 = some u := atI_lit (n := 3) rfl
theorem atI_c4 {x y z u v : Val} {xs : List Val} : L2.atI (x :: y :: z :: u :: v :: xs) 4 = some v := atI_lit (n := 4) rfl
section
variable {T : List (List (Str × Val))} {P : Val → Prop} {x y z u v : Val} {xs : List Val} {i : Int}
theorem ix_t0 (p : P x) : IX T (.tup (x :: xs)) (.int 0) P := ix_of atI_c0 p
theorem ix_t1 (p : P y) : IX T (.tup (x :: y :: xs)) (.int 1) P := ix_of atI_c1 p
theorem ix_t2 (p : P z) : IX T (.tup (x :: y :: z :: xs)) (.int 2) P := ix_of atI_c2 p
theorem ix_t3 (p : P u) : IX T (.tup (x :: y :: z :: u :: xs)) (.int 3) P := ix_of atI_c3 p
theorem ix_t4 (p : P v) : IX T (.tup (x :: y :: z :: u :: v :: xs)) (.int 4) P := ix_of atI_c4 p
theorem ix_l0 (p : P x) : IX T (.lst (x :: xs)) (.int 0) P := ix_of atI_c0 p
theorem ix_l1 (p : P y) : IX T (.lst (x :: y :: xs)) (.int 1) P := ix_of atI_c1 p
theorem ix_l2 (p : P z) : IX T (.lst (x :: y :: z :: xs)) (.int 2) P := ix_of atI_c2 p
theorem ix_T (h : L2.atI xs i = some v) (p : P v) : IX T (.tup xs) (.int i) P := ix_of h p
theorem ix_L (h : L2.atI xs i = some v) (p : P v) : IX T (.lst xs) (.int i) P := ix_of h p
theorem atI_nat (xs : List Val) (j : Nat) (hj : j < xs.length) : L2.atI xs (j : Int) = some xs[j] := by
  unfold L2.atI L2.ixN
  rw [if_pos (by omega), if_pos (by omega)]
  simp [hj]
theorem atI_mem {xs : List Val} {i : Int} (h0 : 0 ≤ i) (h1 : i < xs.length) : ∃ x ∈ xs, L2.atI xs i = some x := by
  have hn : i.toNat < xs.length := by omega
  refine ⟨xs[i.toNat], List.getElem_mem hn, ?_⟩
  unfold L2.atI L2.ixN
  rw [if_pos h0, if_pos h1]
  simp [hn]
theorem atI_last (xs : List Val) (v : Val) : L2.atI (xs ++ [v]) (-1) = some v := by
  have h : L2.ixN (xs ++ [v]).length (-1) = some xs.length := by
    unfold L2.ixN
    rw [if_neg (by decide), if_pos (by simp; omega)]
    simp
    omega
  unfold L2.atI
  rw [h]
  simp
end
section
variable {P : Val → Prop} {x y z v : Val} {xs : List Val}
theorem set_l0 (p : P (.lst (v :: xs))) : SM (setItem (.lst (x :: xs)) (.int 0) v) P := by
  refine sm_of (a := .lst (v :: xs)) ?_ p
  simp [setItem, ixN]
theorem set_l1 (p : P (.lst (x :: v :: xs))) : SM (setItem (.lst (x :: y :: xs)) (.int 1) v) P := by
  refine sm_of (a := .lst (x :: v :: xs)) ?_ p
  have h : ixN (x :: y :: xs).length 1 = some 1 := by
    unfold ixN
    rw [if_pos (by omega), if_pos (by simp; omega)]
    rfl
  simp only [setItem, h]
  rfl
theorem set_l2 (p : P (.lst (x :: y :: v :: xs))) : SM (setItem (.lst (x :: y :: z :: xs)) (.int 2) v) P := by
  refine sm_of (a := .lst (x :: y :: v :: xs)) ?_ p
  have h : ixN (x :: y :: z :: xs).length 2 = some 2 := by
    unfold ixN
    rw [if_pos (by omega), if_pos (by simp; omega)]
    rfl
  simp only [setItem, h]
  rfl
end
section
variable {P : RV → Prop} {i j : Int}
theorem bl_divmod (h : isNat31 j = true) (p : P (.v (.tup [.int (i / j), .int (i % j)]))) : BL 5 [.int i, .int j] P := bl_of (by simp only [blt, bDivmod, h, if_true]) p
theorem bl_all {bs : List Bool} {xs : List Val} (h : blsOf xs = some bs) (p : P (.v (.bl (bs.all id)))) : BL 9 [.lst xs] P := bl_of (by simp only [blt, bAll, h]) p
theorem bl_any {bs : List Bool} {xs : List Val} (h : blsOf xs = some bs) (p : P (.v (.bl (bs.any id)))) : BL 10 [.lst xs] P := bl_of (by simp only [blt, bAny, h]) p
end
theorem small_of {i : Int} (h : 0 ≤ i) (h2 : i ≤ 100000) : small64 i = true := by
  unfold small64
  simp only [Bool.and_eq_true, decide_eq_true_eq]; omega
theorem small_of' {i : Int} (h : -100000 ≤ i) (h2 : i ≤ 100000) : small64 i = true := by
  unfold small64
  simp only [Bool.and_eq_true, decide_eq_true_eq]; omega
theorem nat31_of {i : Int} (h : 0 < i) (h2 : i ≤ 100000) : isNat31 i = true := by
  unfold isNat31
  simp only [Bool.and_eq_true, decide_eq_true_eq]; omega
theorem small_l {i j : Int} (h : small64 i = true) : (small64 i || small64 j) = true := by rw [h]; rfl
theorem small_r {i j : Int} (h : small64 j = true) : (small64 i || small64 j) = true := by rw [h]; simp
theorem bls_true {α : Type} (xs : List α) : blsOf (xs.map fun _ => Val.bl true) = some (xs.map fun _ => true) := by
  induction xs with
  | nil => rfl
  | cons x xs ih => simp [blsOf, ih]
theorem outs_nil' {ε : Env} : outsOf [] ε = some [] := by cases ε <;> rfl
end Eng
end
section
set_option Elab.async false
set_option linter.all false
set_option maxRecDepth 100000
set_option maxHeartbeats 4000000
namespace Eng
open PySem L2
/-! ### rows of texts, sorted -/
theorem strx {s t : Str} (h : s.cps.toList = t.cps.toList) : s = t := by
  cases s; cases t
  congr 1
  exact Array.ext' h
def Asc (l : List Str) : Prop := l.Pairwise fun a b => a.cps.toList < b.cps.toList
theorem mem_insS (x s : Str) : ∀ l : List Str, x ∈ insS s l ↔ x = s ∨ x ∈ l
  | [] => by simp [insS]
  | t :: ts => by
    unfold insS
    split
    · simp only [List.mem_cons, mem_insS x s ts]
      constructor
      · rintro (h | h | h)
        · exact .inr (.inl h)
        · exact .inl h
        · exact .inr (.inr h)
      · rintro (h | h | h)
        · exact .inr (.inl h)
        · exact .inl h
        · exact .inr (.inr h)
    · simp only [List.mem_cons]
theorem len_insS (s : Str) : ∀ l : List Str, (insS s l).length = l.length + 1
  | [] => rfl
  | t :: ts => by
    unfold insS
    split
    · simp [len_insS s ts]
    · rfl
theorem insS_asc (s : Str) : ∀ l : List Str, Asc l → s ∉ l → Asc (insS s l)
  | [], _, _ => by simp [insS, Asc]
  | t :: ts, h, hs => by
    obtain ⟨h1, h2⟩ := List.pairwise_cons.mp h
    simp only [List.mem_cons, not_or] at hs
    unfold insS
    split
    · rename_i hlt
      have hlt := of_decide_eq_true hlt
      refine List.pairwise_cons.mpr ⟨fun x hx => ?_, insS_asc s ts h2 hs.2⟩
      rcases (mem_insS x s ts).mp hx with rfl | hx
      · exact hlt
      · exact h1 x hx
    · rename_i hlt
      have hst : s.cps.toList < t.cps.toList := by
        rcases Std.lt_trichotomy s.cps.toList t.cps.toList with g | g | g
        · exact g
        · exact absurd (strx g) hs.1
        · exact absurd (by simpa using g) hlt
      refine List.pairwise_cons.mpr ⟨fun x hx => ?_, h⟩
      rcases List.mem_cons.mp hx with rfl | hx
      · exact hst
      · exact List.lt_trans hst (h1 x hx)
theorem mem_srtS (x : Str) : ∀ l : List Str, x ∈ srtS l ↔ x ∈ l
  | [] => Iff.rfl
  | s :: l => by
    show x ∈ insS s (srtS l) ↔ _
    rw [mem_insS, mem_srtS x l, List.mem_cons]
theorem len_srtS : ∀ l : List Str, (srtS l).length = l.length
  | [] => rfl
  | s :: l => by
    show (insS s (srtS l)).length = _
    rw [len_insS, len_srtS l]; rfl
theorem srtS_asc : ∀ l : List Str, l.Nodup → Asc (srtS l)
  | [], _ => List.Pairwise.nil
  | s :: l, h => by
    obtain ⟨h1, h2⟩ := List.nodup_cons.mp h
    exact insS_asc s (srtS l) (srtS_asc l h2) (by rw [mem_srtS]; exact h1)
theorem strsOf_map : ∀ l : List Str, strsOf (l.map .str) = some l
  | [] => rfl
  | s :: l => by simp [strsOf, strsOf_map l]
theorem strsOf_sig : ∀ (cs : List Nat), strsOf (cs.map fun c => Val.str ⟨#[c]⟩) = some (cs.map fun c => ⟨#[c]⟩)
  | [] => rfl
  | c :: cs => by simp [strsOf, strsOf_sig cs]
theorem join_sig : ∀ cs : List Nat, (Txt.join (Sl []) (cs.map fun c => (⟨#[c]⟩ : Str))).cps.toList = cs := by
  intro cs
  have e : Txt.join (Sl []) (cs.map fun c => (⟨#[c]⟩ : Str)) = Str.join (Sl []) (cs.map fun c => (⟨#[c]⟩ : Str)) := StrLaws.glued_eq_join _ _
  rw [e]
  clear e
  induction cs with
  | nil => rfl
  | cons c cs ih =>
    cases cs with
    | nil => rfl
    | cons d cs =>
      have z : Str.join (Sl []) ((c :: d :: cs).map fun c => (⟨#[c]⟩ : Str)) = (⟨#[c]⟩ : Str) ++ Sl [] ++ Str.join (Sl []) ((d :: cs).map fun c => (⟨#[c]⟩ : Str)) := rfl
      rw [z]
      show ((#[c] ++ #[]) ++ (Str.join (Sl []) ((d :: cs).map fun c => (⟨#[c]⟩ : Str))).cps).toList = c :: d :: cs
      rw [Array.toList_append, ih]
      simp
theorem sum_sig : ∀ cs : List Nat, ((cs.map fun c => (⟨#[c]⟩ : Str)).map (·.length)).sum = cs.length
  | [] => rfl
  | c :: cs => by
    simp only [List.map_cons, List.sum_cons, sum_sig cs, List.length_cons]
    show 1 + _ = _
    omega
theorem intsOf_map : ∀ l : List Int, intsOf (l.map .int) = some l
  | [] => rfl
  | s :: l => by simp [intsOf, intsOf_map l]
mutual
def plain : Nat → Val → Bool
  | _, .non => true
  | _, .bl _ => true
  | _, .int _ => true
  | _, .str _ => true
  | n + 1, .tup xs => decide (xs.length ≤ 1000) && plains n xs
  | _, _ => false
def plains : Nat → List Val → Bool
  | _, [] => true
  | n, x :: xs => plain n x && plains n xs
end
theorem plains_mem {n : Nat} {x : Val} : ∀ {xs : List Val}, plains n xs = true → x ∈ xs → plain n x = true
  | y :: ys, h, hx => by
    unfold plains at h
    rw [Bool.and_eq_true] at h
    rcases List.mem_cons.mp hx with rfl | hx
    · exact h.1
    · exact plains_mem h.2 hx
theorem mul_chr (c n : Nat) (h : 1 ≤ n) : Txt.mul (Sl [c]) (n : Int) = Sl (List.replicate n c) := by
  refine strx ?_
  have := PyProof.Rows.mul_one_list c n
  rw [Sl_toList]
  simpa [Sl] using this
theorem range_len (n : Int) : (rangeV 0 n).length = n.toNat := by simp [rangeV]
theorem range_map (n : Nat) : rangeV 0 (n : Int) = (List.range n).map fun (i : Nat) => Val.int (i : Int) := by
  unfold rangeV
  rw [show ((n : Int) - 0).toNat = n by omega]
  simp
theorem inR_of {i : Int} (h : -100000 ≤ i) (h2 : i ≤ 100000) : inR i = true := by
  unfold inR
  rw [Bool.and_eq_true, decide_eq_true_eq, decide_eq_true_eq]
  omega
theorem cap_of {n : Nat} (h : n ≤ 10000) : n ≤ cap := Nat.le_trans h (by decide)
theorem cap_lt {n : Nat} (h : n ≤ 10000) : n < cap := Nat.lt_of_le_of_lt h (by decide)
theorem dput_new {acc : List (Key × Val)} {k : Key} {v : Val} (h : k ∉ acc.map (·.1)) : dput acc k v = acc ++ [(k, v)] := by
  unfold dput
  have : (acc.any fun kv => decide (kv.1 = k)) = false := by
    rw [List.any_eq_false]
    intro kv hkv
    simp only [decide_eq_true_eq]
    intro e
    exact h (List.mem_map.mpr ⟨kv, hkv, e⟩)
  rw [this]
  simp
theorem foldl_dput {α : Type} (gk : α → Key) (g : α → Val) : ∀ (xs : List α) (acc : List (Key × Val)), (∀ a ∈ xs, gk a ∉ acc.map (·.1)) → xs.Pairwise (fun a b => gk a ≠ gk b) → xs.foldl (fun acc a => dput acc (gk a) (g a)) acc = acc ++ xs.map fun a => (gk a, g a)
  | [], acc, _, _ => by simp
  | a :: xs, acc, h, hp => by
    obtain ⟨h1, h2⟩ := List.pairwise_cons.mp hp
    rw [List.foldl_cons, dput_new (h a (by simp)), foldl_dput gk g xs _ ?_ h2]
    · simp
    · intro b hb
      rw [List.map_append, List.mem_append]
      rintro (e | e)
      · exact h b (by simp [hb]) e
      · simp at e
        exact h1 b hb e.symm
theorem foldl_dput0 {α : Type} (gk : α → Key) (g : α → Val) (xs : List α) (hp : xs.Pairwise (fun a b => gk a ≠ gk b)) : xs.foldl (fun acc a => dput acc (gk a) (g a)) [] = xs.map fun a => (gk a, g a) := by
  rw [foldl_dput gk g xs [] (by simp) hp]
  simp
theorem zipV_map {α β : Type} (f : α → Val) (g : β → Val) : ∀ (xs : List α) (ys : List β), zipV (xs.map f) (ys.map g) = (xs.zip ys).map fun p => Val.tup [f p.1, g p.2]
  | [], _ => by unfold zipV; rfl
  | x :: xs, [] => by unfold zipV; rfl
  | x :: xs, y :: ys => by
    rw [List.map_cons, List.map_cons, List.zip_cons_cons, List.map_cons, ← zipV_map f g xs ys]
    rfl
theorem filter_true {α : Type} (xs : List α) : (xs.filter fun _ => true) = xs := by simp
end Eng
end
section
set_option Elab.async false
set_option linter.all false
set_option maxRecDepth 100000
set_option maxHeartbeats 4000000
set_option hygiene false
local macro_rules | `(tactic| array_get_dec) => `(tactic| first | refine Eng.wb_cons ?_ | refine Eng.ws_asg ?_ | refine Eng.ws_ret ?_ | refine Eng.ws_ife ?_ | refine Eng.ws_asgT ?_ | refine Eng.ws_par ?_ | refine Eng.ws_exp ?_ | refine Eng.wb_nil ?_ | refine Eng.ws_pass ?_ | refine Eng.ws_retN ?_ | refine Eng.ws_subS ?_ | refine Eng.ws_fldS ?_ | refine Eng.ws_app rfl ?_ | refine Eng.ws_brk ?_ | refine Eng.ws_cont ?_ | refine Eng.wv_of ?_ | refine Eng.wn_of ?_ | refine Eng.wt_of ?_ | refine Eng.we_var rfl ?_ | refine Eng.lk_of rfl ?_ | refine Eng.we_lit ?_ | refine Eng.fzw_v ?_ | refine Eng.fzw_val rfl ?_ | refine Eng.fzw_o ?_ | (apply Eng.fzw_own rfl; · (repeat (first | exact Eng.set_z | apply Eng.set_s))) | refine Eng.wf_cons ?_ | refine Eng.wf_nil ?_ | refine Eng.wa_cons ?_ | refine Eng.wa_nil ?_ | refine Eng.we_tup ?_ | refine Eng.we_ix ?_ | refine Eng.we_bin ?_ | refine Eng.we_cmp ?_ | refine Eng.we_fld ?_ | refine Eng.we_call ?_ | refine Eng.we_meth ?_ | refine Eng.we_blt ?_ | refine Eng.we_lst ?_ | refine Eng.we_ife ?_ | refine Eng.we_and2 ?_ | refine Eng.we_or2 ?_ | refine Eng.we_not ?_ | refine Eng.we_neg ?_ | refine Eng.we_isB ?_ | refine Eng.we_isC ?_ | refine Eng.we_chn ?_ | refine Eng.we_slc ?_ | refine Eng.we_dget1 ?_ | refine Eng.we_dget2 ?_ | refine Eng.isd_of rfl ?_ | refine Eng.we_dsp ?_ | refine Eng.wd_cons ?_ | refine Eng.wd_nil ?_ | refine Eng.wo_no ?_ | refine Eng.wo_so ?_ | refine Eng.wts_nil ?_ | refine Eng.wts_one ?_ | refine Eng.wi_seq ?_ | refine Eng.wi_rng1 ?_ | refine Eng.wi_rng2 ?_ | refine Eng.wi_enum ?_ | refine Eng.wi_zip ?_ | refine Eng.bo_addI ?_ | refine Eng.bo_subI ?_ | refine Eng.cm_ltI ?_ | refine Eng.cm_leI ?_ | refine Eng.cm_gtI ?_ | refine Eng.cm_geI ?_ | refine Eng.cm_eqI ?_ | refine Eng.cm_neI ?_ | refine Eng.cm_eqS ?_ | refine Eng.cm_neS ?_ | refine Eng.cm_isN ?_ | refine Eng.cm_isnotN ?_ | refine Eng.cm_inD rfl ?_ | refine Eng.cm_ninD rfl ?_ | refine Eng.cm_inTS ?_ | refine Eng.cm_inLS ?_ | refine Eng.cm_ninTS ?_ | refine Eng.cm_ninLS ?_ | refine Eng.ix_t0 ?_ | refine Eng.ix_t1 ?_ | refine Eng.ix_t2 ?_ | refine Eng.ix_t3 ?_ | refine Eng.ix_t4 ?_ | refine Eng.ix_l0 ?_ | refine Eng.ix_l1 ?_ | refine Eng.ix_l2 ?_ | refine Eng.ix_T (by with_reducible assumption) ?_ | refine Eng.ix_L (by with_reducible assumption) ?_ | refine Eng.in_of ?_ | refine Eng.tupn_of rfl ?_ | refine Eng.hd_of ?_ | refine Eng.dct_of ?_ | refine Eng.bo_mulI (by first | exact Eng.small_l (by first | decide | with_reducible assumption) | exact Eng.small_r (by first | decide | with_reducible assumption) | exact Eng.small_r (Eng.small_of' (by omega) (by omega)) | exact Eng.small_l (Eng.small_of' (by omega) (by omega))) ?_ | refine Eng.bo_fdiv (by first | decide | with_reducible assumption | exact Eng.nat31_of (by omega) (by omega)) ?_ | refine Eng.bo_mod (by first | decide | omega) ?_ | refine Eng.bo_addT (by first | with_reducible assumption | decide) ?_ | refine Eng.bo_addL (by first | with_reducible assumption | decide) ?_ | refine Eng.bo_addS (by first | with_reducible assumption | decide) ?_ | refine Eng.bo_of (by with_reducible assumption) ?_ | refine Eng.cm_of (by with_reducible assumption) ?_ | refine Eng.ix_of (by with_reducible assumption) ?_ | refine Eng.sl_of (by with_reducible assumption) ?_ | refine Eng.bl_of (by with_reducible assumption) ?_ | refine Eng.bl_divmod (by first | decide | with_reducible assumption | exact Eng.nat31_of (by omega) (by omega)) ?_ | refine Eng.fd_of (by with_reducible assumption) ?_ | refine Eng.me_of (by with_reducible assumption) ?_ | refine Eng.call_plain rfl rfl ?_ | refine Eng.call_well rfl (fun _ => rfl) ?_ | refine Eng.set_l0 ?_ | refine Eng.set_l1 ?_ | refine Eng.set_l2 ?_ | (apply Eng.stw_v; · (repeat (first | exact Eng.put_z rfl | exact Eng.put_z (by with_reducible assumption) | apply Eng.put_s))) | (apply Eng.stw_o; · (repeat (first | exact Eng.put_z rfl | exact Eng.put_z (by with_reducible assumption) | apply Eng.put_s))) | (apply Eng.stw_val rfl; · (repeat (first | exact Eng.put_z rfl | exact Eng.put_z (by with_reducible assumption) | apply Eng.put_s))) | (apply Eng.stw_own rfl; · (repeat (first | exact Eng.set_z | apply Eng.set_s)); · (repeat (first | exact Eng.put_z rfl | exact Eng.put_z (by with_reducible assumption) | apply Eng.put_s))) | refine Eng.stws_nil ?_ | (apply Eng.stws_cons; · (repeat (first | exact Eng.put_z rfl | exact Eng.put_z (by with_reducible assumption) | apply Eng.put_s))) | refine Eng.tgw_nil ?_ | (apply Eng.tgw_nm; · (repeat (first | exact Eng.put_z rfl | exact Eng.put_z (by with_reducible assumption) | apply Eng.put_s))) | refine Eng.tgw_sub ?_ | (apply Eng.wrw_own rfl; · (repeat (first | exact Eng.set_z | apply Eng.set_s))) | (apply Eng.wrw_lent rfl; · (repeat (first | exact Eng.set_z | apply Eng.set_s))) | refine Eng.mvw_v ?_ | refine Eng.mvw_o ?_ | refine Eng.mvw_val rfl ?_ | (apply Eng.mvw_own rfl; · (repeat (first | exact Eng.set_z | apply Eng.set_s))))
local macro_rules | `(tactic| array_mem_dec) => `(tactic| first | refine Eng.fd_of rfl ?_ | refine Eng.me_of rfl ?_ | refine Eng.wc_of (by with_reducible assumption) ?_ | refine Eng.sm_of rfl ?_ | refine Eng.sm_of (by with_reducible assumption) ?_ | refine Eng.tr_of rfl ?_ | refine Eng.tr_of (by with_reducible assumption) ?_ | refine Eng.bl_of rfl ?_ | refine Eng.sl_of rfl ?_ | refine Eng.bo_of rfl ?_ | refine Eng.cm_of rfl ?_ | refine Eng.ix_of rfl ?_ | refine Eng.outs_of rfl ?_ | refine Eng.ifb_t (by first | rfl | with_reducible assumption | (simp only [Bool.not_eq_true']; with_reducible assumption) | (simp only [decide_eq_true_eq, beq_iff_eq, Bool.not_eq_true', bne_iff_ne, decide_eq_false_iff_not, beq_eq_false_iff_ne, ne_eq]; omega) | decide) ?_ | refine Eng.ifb_f (by first | rfl | with_reducible assumption | (simp only [Bool.not_eq_false']; with_reducible assumption) | (simp only [decide_eq_false_iff_not, beq_eq_false_iff_ne, Bool.not_eq_false', ne_eq, beq_iff_eq, decide_eq_true_eq]; omega) | decide) ?_ | exact ⟨rfl, rfl⟩ | exact rfl | (refine Eng.ifb_s (fun hc => ?_) (fun hc => ?_) <;> (try simp only [decide_eq_true_eq, decide_eq_false_iff_not, beq_iff_eq, beq_eq_false_iff_ne, ne_eq, Bool.not_eq_true', Bool.not_eq_false', Int.not_lt, Int.not_le] at hc)))
namespace Law
open Eng PySem
def wl (a b c : Int) : Val := .lst [.int a, .int b, .int c]
theorem s_take (k : Nat) (w0 w1 w2 many : Int) {Q : RV → List Val → Prop} (h1 : 0 < many) (h2 : many < 100000) (q : ∀ r a b c, 0 ≤ r → r < many → Q (.v (.int r)) [wl a b c, .int many]) : WC (Fk D (k+1) i__law_take) [.lent (wl w0 w1 w2), .val (.int many)] Q := by
  refine wc_fn (F__law_take _ _) rfl (by simp only [startE, slotOf, List.map, List.length, List.replicate, List.cons_append, List.nil_append, List.length_cons, List.length_nil, Nat.reduceAdd, Nat.reduceSub]; rfl) ?_; show WB D _ B__law_take _ _ _ _ _; unfold B__law_take
  have hd : many ≠ 0 := by omega
  have hn : isNat31 many = true := nat31_of h1 (by omega)
  have hs : small64 (w1 % 28657 + 40009) = true := small_of (by omega) (by omega)
  unfold wl
  (repeat' (first | array_get_dec | array_mem_dec))
  · exact q _ _ _ _ (Int.emod_nonneg _ hd) (Int.emod_lt_of_pos _ h1)
  · exact q _ _ _ _ (Int.emod_nonneg _ hd) (Int.emod_lt_of_pos _ h1)
theorem s_pickL (k : Nat) (w0 w1 w2 : Int) (xs : List Val) {Q : RV → List Val → Prop} (h1 : xs ≠ []) (h2 : xs.length < 1000) (q : ∀ x a b c, x ∈ xs → Q (.v x) [wl a b c, .lst xs]) : WC (Fk D (k+2) i__law_pick) [.lent (wl w0 w1 w2), .lent (.lst xs)] Q := by
  have hp : 0 < xs.length := List.length_pos_iff.mpr h1
  refine wc_fn (F__law_pick _ _) rfl (by simp only [startE, slotOf, List.map, List.length, List.replicate, List.cons_append, List.nil_append, List.length_cons, List.length_nil, Nat.reduceAdd, Nat.reduceSub]; rfl) ?_; show WB D _ B__law_pick _ _ _ _ _; unfold B__law_pick
  (repeat' (first | array_get_dec | (refine s_take _ _ _ _ _ (by omega) (by omega) (fun r wa wb wc hr0 hr1 => ?_)) | array_mem_dec))
  obtain ⟨x, hx, e⟩ := atI_mem (xs := xs) hr0 hr1
  (repeat' (first | array_get_dec | array_mem_dec))
  exact q _ _ _ _ hx
theorem s_pickT (k : Nat) (w0 w1 w2 : Int) (xs : List Val) {Q : RV → List Val → Prop} (h1 : xs ≠ []) (h2 : xs.length < 1000) (q : ∀ x a b c, x ∈ xs → Q (.v x) [wl a b c, .tup xs]) : WC (Fk D (k+2) i__law_pick) [.lent (wl w0 w1 w2), .val (.tup xs)] Q := by
  have hp : 0 < xs.length := List.length_pos_iff.mpr h1
  refine wc_fn (F__law_pick _ _) rfl (by simp only [startE, slotOf, List.map, List.length, List.replicate, List.cons_append, List.nil_append, List.length_cons, List.length_nil, Nat.reduceAdd, Nat.reduceSub]; rfl) ?_; show WB D _ B__law_pick _ _ _ _ _; unfold B__law_pick
  (repeat' (first | array_get_dec | (refine s_take _ _ _ _ _ (by omega) (by omega) (fun r wa wb wc hr0 hr1 => ?_)) | array_mem_dec))
  obtain ⟨x, hx, e⟩ := atI_mem (xs := xs) hr0 hr1
  (repeat' (first | array_get_dec | array_mem_dec))
  exact q _ _ _ _ hx
/-- one of some numbers that hold P -/
theorem s_pickI (k : Nat) (w0 w1 w2 : Int) (xs : List Int) {Q : RV → List Val → Prop} (h1 : xs ≠ []) (h2 : xs.length < 1000) (q : ∀ x a b c, x ∈ xs → Q (.v (.int x)) [wl a b c, .lst (xs.map .int)]) : WC (Fk D (k+2) i__law_pick) [.lent (wl w0 w1 w2), .lent (.lst (xs.map .int))] Q := by
  refine s_pickL k w0 w1 w2 _ (by simpa using h1) (by simpa using h2) (fun x a b c hx => ?_)
  obtain ⟨i, hi, rfl⟩ := List.mem_map.mp hx
  exact q i a b c hi
theorem s_pickS (k : Nat) (w0 w1 w2 : Int) (xs : List Str) {Q : RV → List Val → Prop} (h1 : xs ≠ []) (h2 : xs.length < 1000) (q : ∀ x a b c, x ∈ xs → Q (.v (.str x)) [wl a b c, .lst (xs.map .str)]) : WC (Fk D (k+2) i__law_pick) [.lent (wl w0 w1 w2), .lent (.lst (xs.map .str))] Q := by
  refine s_pickL k w0 w1 w2 _ (by simpa using h1) (by simpa using h2) (fun x a b c hx => ?_)
  obtain ⟨i, hi, rfl⟩ := List.mem_map.mp hx
  exact q i a b c hi
def abc : List Nat := [97, 98, 99, 100, 101, 102, 103, 104, 105, 106, 107, 108, 109, 110, 111, 112, 113, 114, 115, 116, 117, 118, 119, 120, 121, 122]
def abcS (s : Str) : Prop := ∀ c ∈ s.cps.toList, c ∈ Law.abc
theorem atI_abc {i : Int} (h0 : 0 ≤ i) (h1 : i < 26) : ∃ c ∈ Law.abc, L2.atI Law.abc i = some c := by
  have hn : i.toNat < Law.abc.length := by show i.toNat < 26; omega
  refine ⟨Law.abc[i.toNat], List.getElem_mem hn, ?_⟩
  unfold L2.atI L2.ixN
  rw [if_pos h0, if_pos (by show i < 26; omega)]
  simp [hn]
theorem s_letters (k : Nat) (w0 w1 w2 n : Int) {Q : RV → List Val → Prop} (h0 : 0 ≤ n) (h1 : n ≤ 8) (q : ∀ s a b c, (s.cps.toList.length : Int) = n → abcS s → Q (.v (.str s)) [wl a b c, .int n]) : WC (Fk D (k+2) i__law_letters) [.lent (wl w0 w1 w2), .val (.int n)] Q := by
  refine wc_fn (F__law_letters _ _) rfl (by simp only [startE, slotOf, List.map, List.length, List.replicate, List.cons_append, List.nil_append, List.length_cons, List.length_nil, Nat.reduceAdd, Nat.reduceSub]; rfl) ?_; show WB D _ B__law_letters _ _ _ _ _; unfold B__law_letters
  (repeat' (first | array_get_dec | array_mem_dec))
  refine we_lcS (fun i ys ε => ∃ a b c s, ∃ cs : List Nat, cs.length = i ∧ (∀ c ∈ cs, c ∈ Law.abc) ∧ ys = cs.map (fun c => Val.str ⟨#[c]⟩) ∧ ε = [.lent (wl a b c), .val (.int n), s]) ?_
  (repeat' (first | array_get_dec | array_mem_dec))
  refine ⟨inR_of (by omega) (by omega), rfl, by rw [range_len]; exact cap_of (by omega), ⟨w0, w1, w2, _, [], rfl, (fun _ h => nomatch h), rfl, rfl⟩, ?_, ?_⟩
  · rintro j x acc ε hx ⟨a, b, c, s, cs, hl, hcs, rfl, rfl⟩
    refine ⟨_, _, rfl, rfl, ?_⟩
    (repeat' (first | array_get_dec | (refine s_take _ _ _ _ _ (by omega) (by omega) (fun r wa wb wc hr0 hr1 => ?_)) | array_mem_dec))
    obtain ⟨ch, hch, e⟩ := atI_abc hr0 hr1
    have e2 : item D.kds (.str (Sl [97, 98, 99, 100, 101, 102, 103, 104, 105, 106, 107, 108, 109, 110, 111, 112, 113, 114, 115, 116, 117, 118, 119, 120, 121, 122])) (.int r) = some (.str ⟨#[ch]⟩) := by
      have hcp : 26 ≤ cap := by decide
      unfold Law.abc at e
      simp [item, Sl_length, Sl_toList, hcp, e]
    (repeat' (first | array_get_dec | array_mem_dec))
    exact ⟨_, _, _, _, cs ++ [ch], by simp [hl], by
      intro z hz
      rcases List.mem_append.mp hz with hz | hz
      · exact hcs z hz
      · simp at hz; subst hz; exact hch, by simp, rfl⟩
  · rintro ys ε2 ⟨a, b, c, s, cs, hl, hcs, rfl, rfl⟩
    have hsum : ((cs.map fun c => (⟨#[c]⟩ : Str)).map (·.length)).sum + (cs.map fun c => (⟨#[c]⟩ : Str)).length * (Sl []).length ≤ cap := by
      rw [sum_sig]
      rw [range_len] at hl
      have z : (Sl []).length = 0 := rfl
      rw [z, Nat.mul_zero]
      exact cap_of (by omega)
    have hb : blt 20 [.str (Sl []), .lst (cs.map fun c => Val.str ⟨#[c]⟩)] = some (.v (.str (Txt.join (Sl []) (cs.map fun c => ⟨#[c]⟩)))) := by
      simp only [blt, bJoin, strsOf_sig, hsum, if_true]
    (repeat' (first | array_get_dec | array_mem_dec))
    refine q _ _ _ _ ?_ ?_
    · rw [join_sig, hl, range_len]; omega
    · intro z hz
      rw [join_sig] at hz
      exact hcs z hz
end Law
end
section
set_option Elab.async false
set_option linter.all false
set_option maxRecDepth 100000
set_option maxHeartbeats 4000000
set_option hygiene false
local macro_rules | `(tactic| array_get_dec) => `(tactic| first | refine Eng.wb_cons ?_ | refine Eng.ws_asg ?_ | refine Eng.ws_ret ?_ | refine Eng.ws_ife ?_ | refine Eng.ws_asgT ?_ | refine Eng.ws_par ?_ | refine Eng.ws_exp ?_ | refine Eng.wb_nil ?_ | refine Eng.ws_pass ?_ | refine Eng.ws_retN ?_ | refine Eng.ws_subS ?_ | refine Eng.ws_fldS ?_ | refine Eng.ws_app rfl ?_ | refine Eng.ws_brk ?_ | refine Eng.ws_cont ?_ | refine Eng.wv_of ?_ | refine Eng.wn_of ?_ | refine Eng.wt_of ?_ | refine Eng.we_var rfl ?_ | refine Eng.lk_of rfl ?_ | refine Eng.we_lit ?_ | refine Eng.fzw_v ?_ | refine Eng.fzw_val rfl ?_ | refine Eng.fzw_o ?_ | (apply Eng.fzw_own rfl; · (repeat (first | exact Eng.set_z | apply Eng.set_s))) | refine Eng.wf_cons ?_ | refine Eng.wf_nil ?_ | refine Eng.wa_cons ?_ | refine Eng.wa_nil ?_ | refine Eng.we_tup ?_ | refine Eng.we_ix ?_ | refine Eng.we_bin ?_ | refine Eng.we_cmp ?_ | refine Eng.we_fld ?_ | refine Eng.we_call ?_ | refine Eng.we_meth ?_ | refine Eng.we_blt ?_ | refine Eng.we_lst ?_ | refine Eng.we_ife ?_ | refine Eng.we_and2 ?_ | refine Eng.we_or2 ?_ | refine Eng.we_not ?_ | refine Eng.we_neg ?_ | refine Eng.we_isB ?_ | refine Eng.we_isC ?_ | refine Eng.we_chn ?_ | refine Eng.we_slc ?_ | refine Eng.we_dget1 ?_ | refine Eng.we_dget2 ?_ | refine Eng.isd_of rfl ?_ | refine Eng.we_dsp ?_ | refine Eng.wd_cons ?_ | refine Eng.wd_nil ?_ | refine Eng.wo_no ?_ | refine Eng.wo_so ?_ | refine Eng.wts_nil ?_ | refine Eng.wts_one ?_ | refine Eng.wi_seq ?_ | refine Eng.wi_rng1 ?_ | refine Eng.wi_rng2 ?_ | refine Eng.wi_enum ?_ | refine Eng.wi_zip ?_ | refine Eng.bo_addI ?_ | refine Eng.bo_subI ?_ | refine Eng.cm_ltI ?_ | refine Eng.cm_leI ?_ | refine Eng.cm_gtI ?_ | refine Eng.cm_geI ?_ | refine Eng.cm_eqI ?_ | refine Eng.cm_neI ?_ | refine Eng.cm_eqS ?_ | refine Eng.cm_neS ?_ | refine Eng.cm_isN ?_ | refine Eng.cm_isnotN ?_ | refine Eng.cm_inD rfl ?_ | refine Eng.cm_ninD rfl ?_ | refine Eng.cm_inTS ?_ | refine Eng.cm_inLS ?_ | refine Eng.cm_ninTS ?_ | refine Eng.cm_ninLS ?_ | refine Eng.ix_t0 ?_ | refine Eng.ix_t1 ?_ | refine Eng.ix_t2 ?_ | refine Eng.ix_t3 ?_ | refine Eng.ix_t4 ?_ | refine Eng.ix_l0 ?_ | refine Eng.ix_l1 ?_ | refine Eng.ix_l2 ?_ | refine Eng.ix_T (by with_reducible assumption) ?_ | refine Eng.ix_L (by with_reducible assumption) ?_ | refine Eng.in_of ?_ | refine Eng.tupn_of rfl ?_ | refine Eng.hd_of ?_ | refine Eng.dct_of ?_ | refine Eng.bo_mulI (by first | exact Eng.small_l (by first | decide | with_reducible assumption) | exact Eng.small_r (by first | decide | with_reducible assumption) | exact Eng.small_r (Eng.small_of' (by omega) (by omega)) | exact Eng.small_l (Eng.small_of' (by omega) (by omega))) ?_ | refine Eng.bo_fdiv (by first | decide | with_reducible assumption | exact Eng.nat31_of (by omega) (by omega)) ?_ | refine Eng.bo_mod (by first | decide | omega) ?_ | refine Eng.bo_addT (by first | with_reducible assumption | decide) ?_ | refine Eng.bo_addL (by first | with_reducible assumption | decide) ?_ | refine Eng.bo_addS (by first | with_reducible assumption | decide) ?_ | refine Eng.bo_of (by with_reducible assumption) ?_ | refine Eng.cm_of (by with_reducible assumption) ?_ | refine Eng.ix_of (by with_reducible assumption) ?_ | refine Eng.sl_of (by with_reducible assumption) ?_ | refine Eng.bl_of (by with_reducible assumption) ?_ | refine Eng.bl_divmod (by first | decide | with_reducible assumption | exact Eng.nat31_of (by omega) (by omega)) ?_ | refine Eng.fd_of (by with_reducible assumption) ?_ | refine Eng.me_of (by with_reducible assumption) ?_ | refine Eng.call_plain rfl rfl ?_ | refine Eng.call_well rfl (fun _ => rfl) ?_ | refine Eng.set_l0 ?_ | refine Eng.set_l1 ?_ | refine Eng.set_l2 ?_ | (apply Eng.stw_v; · (repeat (first | exact Eng.put_z rfl | exact Eng.put_z (by with_reducible assumption) | apply Eng.put_s))) | (apply Eng.stw_o; · (repeat (first | exact Eng.put_z rfl | exact Eng.put_z (by with_reducible assumption) | apply Eng.put_s))) | (apply Eng.stw_val rfl; · (repeat (first | exact Eng.put_z rfl | exact Eng.put_z (by with_reducible assumption) | apply Eng.put_s))) | (apply Eng.stw_own rfl; · (repeat (first | exact Eng.set_z | apply Eng.set_s)); · (repeat (first | exact Eng.put_z rfl | exact Eng.put_z (by with_reducible assumption) | apply Eng.put_s))) | refine Eng.stws_nil ?_ | (apply Eng.stws_cons; · (repeat (first | exact Eng.put_z rfl | exact Eng.put_z (by with_reducible assumption) | apply Eng.put_s))) | refine Eng.tgw_nil ?_ | (apply Eng.tgw_nm; · (repeat (first | exact Eng.put_z rfl | exact Eng.put_z (by with_reducible assumption) | apply Eng.put_s))) | refine Eng.tgw_sub ?_ | (apply Eng.wrw_own rfl; · (repeat (first | exact Eng.set_z | apply Eng.set_s))) | (apply Eng.wrw_lent rfl; · (repeat (first | exact Eng.set_z | apply Eng.set_s))) | refine Eng.mvw_v ?_ | refine Eng.mvw_o ?_ | refine Eng.mvw_val rfl ?_ | (apply Eng.mvw_own rfl; · (repeat (first | exact Eng.set_z | apply Eng.set_s))))
local macro_rules | `(tactic| array_mem_dec) => `(tactic| first | refine Eng.fd_of rfl ?_ | refine Eng.me_of rfl ?_ | refine Eng.wc_of (by with_reducible assumption) ?_ | refine Eng.sm_of rfl ?_ | refine Eng.sm_of (by with_reducible assumption) ?_ | refine Eng.tr_of rfl ?_ | refine Eng.tr_of (by with_reducible assumption) ?_ | refine Eng.bl_of rfl ?_ | refine Eng.sl_of rfl ?_ | refine Eng.bo_of rfl ?_ | refine Eng.cm_of rfl ?_ | refine Eng.ix_of rfl ?_ | refine Eng.outs_of rfl ?_ | refine Eng.ifb_t (by first | rfl | with_reducible assumption | (simp only [Bool.not_eq_true']; with_reducible assumption) | (simp only [decide_eq_true_eq, beq_iff_eq, Bool.not_eq_true', bne_iff_ne, decide_eq_false_iff_not, beq_eq_false_iff_ne, ne_eq]; omega) | decide) ?_ | refine Eng.ifb_f (by first | rfl | with_reducible assumption | (simp only [Bool.not_eq_false']; with_reducible assumption) | (simp only [decide_eq_false_iff_not, beq_eq_false_iff_ne, Bool.not_eq_false', ne_eq, beq_iff_eq, decide_eq_true_eq]; omega) | decide) ?_ | exact ⟨rfl, rfl⟩ | exact rfl | (refine Eng.ifb_s (fun hc => ?_) (fun hc => ?_) <;> (try simp only [decide_eq_true_eq, decide_eq_false_iff_not, beq_iff_eq, beq_eq_false_iff_ne, ne_eq, Bool.not_eq_true', Bool.not_eq_false', Int.not_lt, Int.not_le] at hc)))
namespace Law
open Eng PySem
structure Nm (n : Str) : Prop where
  ne : (n == Sl []) = false
  abc : ∀ c ∈ n.cps.toList, c ∈ Law.abc
  len : n.length ≤ 8
  word : ∀ kvs, D.kds[1]? = some kvs → sget kvs n = none
def barredL : List Str := [Sl [97, 108, 108], Sl [98, 97, 99, 107], Sl [98, 108, 97, 99, 107], Sl [99, 117, 101], Sl [99, 117, 116], Sl [100, 114, 111, 112], Sl [101, 100, 105, 116], Sl [102, 97, 100, 101], Sl [102, 114, 101, 101], Sl [103, 111], Sl [104, 111, 108, 100], Sl [105, 110], Sl [106, 117, 109, 112], Sl [110, 111], Sl [110, 111, 110, 101], Sl [110, 111, 119], Sl [112, 117, 116], Sl [115, 110, 97, 112], Sl [116, 111], Sl [117, 110, 100, 111], Sl [119, 97, 105, 116], Sl [121, 101, 115], Sl [102, 111, 108, 108, 111, 119], Sl [119, 104, 111, 108, 101]]
theorem nm_of {s : Str} (h0 : 0 < s.cps.toList.length) (h1 : s.cps.toList.length ≤ 8) (h2 : abcS s) (h3 : s ∉ barredL) : Nm s := by
  refine ⟨?_, h2, h1, ?_⟩
  · cases e : s == Sl [] with
    | false => rfl
    | true =>
      rw [beq_iff_eq] at e
      subst e
      simp [Sl] at h0
  · intro kvs hk
    rw [K_WORDS] at hk
    cases hk
    simp only [barredL, List.mem_cons, not_or, List.not_mem_nil, not_false_eq_true, and_true] at h3
    obtain ⟨a1, a2, a3, a4, a5, a6, a7, a8, a9, a10, a11, a12, a13, a14, a15, a16, a17, a18, a19, a20, a21, a22, a23, a24⟩ := h3
    have f : ∀ {t : Str}, ¬ s = t → (s == t) = false := fun h => by simp [h]
    simp only [sget, List.lookup, f a1, f a2, f a3, f a4, f a5, f a6, f a7, f a8, f a9, f a10, f a11, f a12, f a13, f a14, f a15, f a16, f a17, f a18, f a19, f a20, f a21, f a22, f a23, f a24]
def candL : List Str := [Sl [113], Sl [113, 113], Sl [113, 113, 113], Sl [113, 113, 113, 113], Sl [113, 113, 113, 113, 113], Sl [113, 113, 113, 113, 113, 113], Sl [113, 113, 113, 113, 113, 113, 113], Sl [113, 113, 113, 113, 113, 113, 113, 113]] ++ Law.abc.map fun c => Sl [103, c, 104]
theorem cand_nm : ∀ s ∈ candL, 0 < s.cps.toList.length ∧ s.cps.toList.length ≤ 8 ∧ (∀ c ∈ s.cps.toList, c ∈ Law.abc) ∧ s ∉ barredL := by decide
theorem cand_nodup : candL.Nodup := by decide
def pickedL : List Str := [Sl [108, 97, 109, 112], Sl [115, 111, 110, 103], Sl [119, 105, 110, 103], Sl [99, 104, 97, 110, 110, 101, 108, 115], Sl [116, 111, 112], Sl [112, 108, 97, 99, 101], Sl [108, 101, 118, 101, 108], Sl [97], Sl [122], Sl [115, 116, 97, 108, 101], Sl [109, 97, 105, 110]]
theorem picked_nm : ∀ s ∈ pickedL, 0 < s.cps.toList.length ∧ s.cps.toList.length ≤ 8 ∧ (∀ c ∈ s.cps.toList, c ∈ Law.abc) := by decide
theorem exists_free (taken : List Str) (h : taken.length ≤ 30) : ∃ s r, candL.filter (fun s => !decide (s ∈ taken)) = s :: r := by
  cases e : candL.filter (fun s => !decide (s ∈ taken)) with
  | cons s r => exact ⟨s, r, rfl⟩
  | nil =>
    exfalso
    have hall : ∀ s ∈ candL, s ∈ taken := fun s hs => by
      have := List.filter_eq_nil_iff.mp e s hs
      simpa using this
    have := List.Nodup.length_le_of_subset cand_nodup hall
    have hc : candL.length = 34 := rfl
    omega

def dp (s : Str) : Prop := 0 < s.cps.toList.length ∧ s.cps.toList.length ≤ 8 ∧ abcS s
theorem len_sig (c : Nat) : (⟨#[c]⟩ : Str).length = 1 := rfl
theorem s_name (k : Nat) (w0 w1 w2 : Int) (taken : List Str) {Q : RV → List Val → Prop} (hz : taken.length ≤ 30) (q : ∀ s a b c, Nm s → s ∉ taken → Q (.v (.str s)) [wl a b c, .lst (taken.map .str)]) : WC (Fk D (k+3) i__law_name) [.lent (wl w0 w1 w2), .lent (.lst (taken.map .str))] Q := by
  refine wc_fn (F__law_name _ _) rfl (by simp only [startE, slotOf, List.map, List.length, List.replicate, List.cons_append, List.nil_append, List.length_cons, List.length_nil, Nat.reduceAdd, Nat.reduceSub]; rfl) ?_; show WB D _ B__law_name _ _ _ _ _; unfold B__law_name
  (repeat' (first | array_get_dec | array_mem_dec))
  refine ws_forF (fun _ ε => ∃ a b c s3 s4 s5, ε = [.lent (wl a b c), .lent (.lst (taken.map .str)), .own (.lst (barredL.map .str)), s3, s4, s5, .un, .un, .un] ∧ free s3 = true ∧ free s4 = true ∧ free s5 = true) ?_
  (repeat' (first | array_get_dec | array_mem_dec))
  refine ⟨rfl, rfl, ⟨w0, w1, w2, _, _, _, rfl, rfl, rfl, rfl⟩, ?_, ?_⟩
  · rintro j x ε2 hx ⟨a, b, c, s3, s4, s5, rfl, f3, f4, f5⟩
    refine ⟨_, tg_one (by (repeat (first | exact put_z rfl | exact put_z (by with_reducible assumption) | apply put_s))), ?_⟩
    (repeat' (first | array_get_dec | (refine s_take _ _ _ _ _ (by omega) (by omega) (fun r wa wb wc hr0 hr1 => ?_)) | array_mem_dec))
    have hn : ∃ n : Int, 1 ≤ n ∧ n ≤ 8 ∧ L2.atI [Val.int 1, .int 1, .int 2, .int 4, .int 8, .int 3] r = some (.int n) := by
      obtain ⟨y, hy, e⟩ := atI_mem (xs := [Val.int 1, .int 1, .int 2, .int 4, .int 8, .int 3]) hr0 (by simpa using hr1)
      simp only [List.mem_cons, List.not_mem_nil, or_false] at hy
      rcases hy with rfl | rfl | rfl | rfl | rfl | rfl <;> exact ⟨_, by decide, by decide, e⟩
    obtain ⟨n, n0, n1, en⟩ := hn
    (repeat' (first | array_get_dec | (refine s_letters _ _ _ _ _ (by omega) (by omega) (fun s wa wb wc hs0 hs1 => ?_)) | (refine s_pickS _ _ _ _ pickedL (by decide) (by decide) (fun s wa wb wc hy => ?_)) | array_mem_dec))
    all_goals first
      | exact ⟨_, _, _, _, _, _, rfl, rfl, rfl, rfl⟩
      | (have dt : dp s := picked_nm s hy
         exact q _ _ _ _ (nm_of dt.1 dt.2.1 dt.2.2 (by assumption)) (by assumption))
      | exact q _ _ _ _ (nm_of (by omega) (by omega) hs1 (by assumption)) (by assumption)
  · rintro ε2 ⟨a, b, c, s3, s4, s5, rfl, f3, f4, f5⟩
    (repeat' (first | array_get_dec | array_mem_dec))
    refine we_lcD candL Val.str (fun s => !decide (s ∈ taken)) Val.str ?_
    (repeat' (first | array_get_dec | array_mem_dec))
    refine we_lcD [1, 2, 3, 4, 5, 6, 7, 8] (fun (n : Nat) => Val.int (n : Int)) (fun _ => true) (fun n => .str (Sl (List.replicate n 113))) ?_
    (repeat' (first | array_get_dec | array_mem_dec))
    refine ⟨rfl, rfl, by decide, ⟨_, rfl, fun n hn => ?_⟩, ?_⟩
    · refine ⟨_, rfl, ?_⟩
      have h1 : 1 ≤ n ∧ n ≤ 8 := by
        simp at hn
        omega
      have hb : binop .Mult (.str (Sl [113])) (.int (n : Int)) = some (.v (.str (Sl (List.replicate n 113)))) := by
        have h2 : (Sl [113]).length ≤ 16 ∧ 0 ≤ (n : Int) ∧ (n : Int) ≤ 1000 := ⟨by decide, by omega, by omega⟩
        simp only [binop, h2, and_self, if_true, mul_chr 113 n h1.1]
      (repeat' (first | array_get_dec | array_mem_dec))
      refine ⟨rfl, ?_⟩
      (repeat' (first | array_get_dec | array_mem_dec))
    (repeat' (first | array_get_dec | array_mem_dec))
    refine we_lcD Law.abc (fun c => Val.str ⟨#[c]⟩) (fun _ => true) (fun c => .str (Sl [103] ++ ⟨#[c]⟩ ++ Sl [104])) ?_
    (repeat' (first | array_get_dec | array_mem_dec))
    refine ⟨rfl, by decide, ⟨_, rfl, fun n hn => ?_⟩, ?_⟩
    · refine ⟨_, rfl, ?_⟩
      have h1 : (Sl [103]).length + (⟨#[n]⟩ : Str).length ≤ cap := by
        rw [len_sig]
        exact cap_of (by decide)
      have h2 : (Sl [103] ++ (⟨#[n]⟩ : Str)).length + (Sl [104]).length ≤ cap := by
        rw [Str.length_append, len_sig]
        exact cap_of (by decide)
      (repeat' (first | array_get_dec | array_mem_dec))
      refine ⟨rfl, ?_⟩
      (repeat' (first | array_get_dec | array_mem_dec))
    (repeat' (first | array_get_dec | array_mem_dec))
    refine ⟨rfl, by decide, ⟨_, rfl, fun s hs => ?_⟩, ?_⟩
    · refine ⟨_, rfl, ?_⟩
      (repeat' (first | array_get_dec | array_mem_dec))
      refine ⟨rfl, ?_⟩
      (repeat' (first | array_get_dec | array_mem_dec))
    obtain ⟨s, rst, hs⟩ := exists_free taken hz
    have hm : s ∈ candL.filter (fun s => !decide (s ∈ taken)) := by rw [hs]; simp
    obtain ⟨m1, m2⟩ := List.mem_filter.mp hm
    have hcd := cand_nm s m1
    rw [hs]
    (repeat' (first | array_get_dec | array_mem_dec))
    exact q _ _ _ _ (nm_of hcd.1 hcd.2.1 hcd.2.2.1 hcd.2.2.2) (by simpa using m2)
theorem s_names (k : Nat) (w0 w1 w2 many : Int) {Q : RV → List Val → Prop} (h0 : 0 ≤ many) (hm : many ≤ 8) (q : ∀ l : List Str, ∀ a b c, (l.length : Int) = many → Asc l → (∀ s ∈ l, Nm s) → Q (.o (.lst (l.map .str))) [wl a b c, .int many]) : WC (Fk D (k+4) i__law_names) [.lent (wl w0 w1 w2), .val (.int many)] Q := by
  refine wc_fn (F__law_names _ _) rfl (by simp only [startE, slotOf, List.map, List.length, List.replicate, List.cons_append, List.nil_append, List.length_cons, List.length_nil, Nat.reduceAdd, Nat.reduceSub]; rfl) ?_; show WB D _ B__law_names _ _ _ _ _; unfold B__law_names
  (repeat' (first | array_get_dec | array_mem_dec))
  refine ws_forF (fun i ε => ∃ a b c s3, ∃ l : List Str, ε = [.lent (wl a b c), .val (.int many), .own (.lst (l.map .str)), s3] ∧ free s3 = true ∧ l.length = i ∧ l.Nodup ∧ (∀ s ∈ l, Nm s)) ?_
  (repeat' (first | array_get_dec | array_mem_dec))
  refine ⟨inR_of (by omega) (by omega), rfl, ⟨w0, w1, w2, _, [], rfl, rfl, rfl, List.nodup_nil, (fun _ h => nomatch h)⟩, ?_, ?_⟩
  · rintro j x ε2 hx ⟨a, b, c, s3, l, rfl, f3, hl, hn, hs⟩
    have hj : j < (rangeV 0 many).length := by
      rcases Nat.lt_or_ge j (rangeV 0 many).length with g | g
      · exact g
      · rw [List.getElem?_eq_none g] at hx; cases hx
    rw [range_len] at hj
    refine ⟨_, tg_one (by (repeat (first | exact put_z rfl | exact put_z (by with_reducible assumption) | apply put_s))), ?_⟩
    (repeat' (first | array_get_dec | array_mem_dec))
    refine call_lent rfl rfl ?_
    refine s_name _ _ _ _ l (by omega) (fun s a' b' c' h1 h2 => ?_)
    simp only [back, List.getElem?_cons_zero, List.getElem?_cons_succ, List.set_cons_zero, List.set_cons_succ]
    have hc : (l.map Val.str).length < cap := by rw [List.length_map]; exact cap_lt (by omega)
    (repeat' (first | array_get_dec | array_mem_dec))
    refine ⟨hc, ?_⟩
    (repeat' (first | array_get_dec | array_mem_dec))
    refine ⟨a', b', c', _, l ++ [s], by rw [List.map_append]; rfl, rfl, by simp [hl], ?_, ?_⟩
    · rw [List.nodup_append]
      refine ⟨hn, by simp, ?_⟩
      intro x hx y hy e
      simp at hy
      subst hy e
      exact h2 hx
    · intro t ht
      rcases List.mem_append.mp ht with ht | ht
      · exact hs t ht
      · simp at ht
        subst ht
        exact h1
  · rintro ε2 ⟨a, b, c, s3, l, rfl, f3, hl, hn, hs⟩
    rw [range_len] at hl
    have h64 : l.length < 64 := by omega
    have hb : blt 11 [.lst (l.map .str)] = some (.o (.lst ((srtS l).map .str))) := by
      simp only [blt, bSorted, strsOf_map, h64, if_true]
    (repeat' (first | array_get_dec | array_mem_dec))
    exact q _ _ _ _ (by rw [len_srtS]; omega) (srtS_asc l hn) (fun s hs' => hs s ((mem_srtS s l).mp hs'))
theorem e_same : ∀ (n : Nat) (v : Val), Eng.plain n v = true → ∀ k, Fk D (k+n+1) i__law_same [.val v, .val v] = some (.v (.bl true), [v, v])
  | n, .non, _, k => by
    refine wc_eq ?_
    refine wc_fn (F__law_same _ _) rfl (by simp only [startE, slotOf, List.map, List.length, List.replicate, List.cons_append, List.nil_append, List.length_cons, List.length_nil, Nat.reduceAdd, Nat.reduceSub]; rfl) ?_; show WB D _ B__law_same _ _ _ _ _; unfold B__law_same
    (repeat' (first | array_get_dec | array_mem_dec))
  | n, .bl b, _, k => by
    refine wc_eq ?_
    refine wc_fn (F__law_same _ _) rfl (by simp only [startE, slotOf, List.map, List.length, List.replicate, List.cons_append, List.nil_append, List.length_cons, List.length_nil, Nat.reduceAdd, Nat.reduceSub]; rfl) ?_; show WB D _ B__law_same _ _ _ _ _; unfold B__law_same
    cases b <;> (repeat' (first | array_get_dec | array_mem_dec))
  | n, .int i, _, k => by
    refine wc_eq ?_
    refine wc_fn (F__law_same _ _) rfl (by simp only [startE, slotOf, List.map, List.length, List.replicate, List.cons_append, List.nil_append, List.length_cons, List.length_nil, Nat.reduceAdd, Nat.reduceSub]; rfl) ?_; show WB D _ B__law_same _ _ _ _ _; unfold B__law_same
    have h : (i == i) = true := by simp
    (repeat' (first | array_get_dec | array_mem_dec))
    all_goals first
      | (rw [h]; exact ⟨rfl, rfl⟩)
      | simp_all
  | n, .str s, _, k => by
    refine wc_eq ?_
    refine wc_fn (F__law_same _ _) rfl (by simp only [startE, slotOf, List.map, List.length, List.replicate, List.cons_append, List.nil_append, List.length_cons, List.length_nil, Nat.reduceAdd, Nat.reduceSub]; rfl) ?_; show WB D _ B__law_same _ _ _ _ _; unfold B__law_same
    have h : (s == s) = true := by simp
    (repeat' (first | array_get_dec | array_mem_dec))
    all_goals first
      | (rw [h]; exact ⟨rfl, rfl⟩)
      | simp_all
  | n + 1, .tup xs, h, k => by
    unfold Eng.plain at h
    rw [Bool.and_eq_true, decide_eq_true_eq] at h
    rw [show k + (n + 1) + 1 = (k + (n+1)) + 1 by omega]
    refine wc_eq ?_
    refine wc_fn (F__law_same _ _) rfl (by simp only [startE, slotOf, List.map, List.length, List.replicate, List.cons_append, List.nil_append, List.length_cons, List.length_nil, Nat.reduceAdd, Nat.reduceSub]; rfl) ?_; show WB D _ B__law_same _ _ _ _ _; unfold B__law_same
    have hne : (!((xs.length : Int) == (xs.length : Int))) = false := by simp
    (repeat' (first | array_get_dec | array_mem_dec))
    refine we_lcD (List.range xs.length) (fun (j : Nat) => Val.int (j : Int)) (fun _ => true) (fun _ => .bl true) ?_
    (repeat' (first | array_get_dec | array_mem_dec))
    refine ⟨inR_of (by omega) (by omega), range_map _, by rw [List.length_range]; exact cap_of (by omega), ⟨_, rfl, fun j hj => ?_⟩, ?_⟩
    · have hj := List.mem_range.mp hj
      have hat := atI_nat xs j hj
      have q := e_same n xs[j] (plains_mem h.2 (List.getElem_mem hj)) k
      rw [show k + n + 1 = k + (n + 1) by omega] at q
      refine ⟨_, rfl, ?_⟩
      (repeat' (first | array_get_dec | array_mem_dec))
      refine ⟨rfl, ?_⟩
      (repeat' (first | array_get_dec | array_mem_dec))
    · have hb := bls_true ((List.range xs.length).filter fun _ => true)
      (repeat' (first | array_get_dec | (refine bl_all hb ?_) | array_mem_dec))
      simp
theorem s_well (k : Nat) (ns : List Int) (t : Int) {Q : RV → List Val → Prop} (h0 : 0 ≤ t) (h1 : t ≤ 63) (hn : ns.length ≤ 63) (q : ∀ a b c, Q (.o (wl a b c)) [.scr ns, .int t]) : WC (Fk D (k+1) i__law_well) [.val (.scr ns), .val (.int t)] Q := by
  refine wc_fn (F__law_well _ _) rfl (by simp only [startE, slotOf, List.map, List.length, List.replicate, List.cons_append, List.nil_append, List.length_cons, List.length_nil, Nat.reduceAdd, Nat.reduceSub]; rfl) ?_; show WB D _ B__law_well _ _ _ _ _; unfold B__law_well
  refine wb_cut (fun ε => ∃ own : Int, ε = [.val (.scr ns), .val (.int t), .val (.int own), .un, .un]) ?_ ?_
  · by_cases h : t < ns.length
    · have hi : item D.kds (.scr ns) (.int t) = some (.int (ns[t.toNat]'(by omega))) := by
        have hn : t.toNat < ns.length := by omega
        have e : L2.atI ns t = some ns[t.toNat] := by
          unfold L2.atI L2.ixN
          rw [if_pos h0, if_pos h]
          simp [hn]
        simp only [item, e, Option.map]
      (repeat' (first | array_get_dec | array_mem_dec))
      exact ⟨_, rfl⟩
    · have hc : cutW (ns.map Val.int) none (some 2) = ((ns.take (HT.sIx ns.length ns.length (some 2) - HT.sIx ns.length 0 none)).map Val.int) := by
        have z : HT.sIx ns.length 0 none = 0 := rfl
        unfold cutW
        simp [z]
      generalize ns.take (HT.sIx ns.length ns.length (some 2) - HT.sIx ns.length 0 none) = zs at hc
      have hsl : slice (.scr ns) none (some 2) = some (.o (.lst (zs.map .int))) := by
        simp only [slice, hc]
      have hb : blt 8 [.lst (zs.map .int)] = some (.v (.int zs.sum)) := by
        simp only [blt, bSum, intsOf_map]
      (repeat' (first | array_get_dec | array_mem_dec))
      exact ⟨_, rfl⟩
  rintro ε1 ⟨own, rfl⟩
  have hc : cutW (ns.map Val.int) none (some 5) = ((ns.take (HT.sIx ns.length ns.length (some 5) - HT.sIx ns.length 0 none)).map Val.int) := by
    have z : HT.sIx ns.length 0 none = 0 := rfl
    unfold cutW
    simp [z]
  generalize hz : ns.take (HT.sIx ns.length ns.length (some 5) - HT.sIx ns.length 0 none) = zs at hc
  have hlz : zs.length ≤ 63 := by
    rw [← hz, List.length_take]
    omega
  have hsl : slice (.scr ns) none (some 5) = some (.o (.lst (zs.map .int))) := by
    simp only [slice, hc]
  have hcap : (zs.map Val.int).length + [Val.int own].length ≤ cap := by
    rw [List.length_map]
    exact cap_of (by simp; omega)
  (repeat' (first | array_get_dec | array_mem_dec))
  refine ws_forF (fun i ε => ∃ stir s4, ε = [.val (.scr ns), .val (.int t), .val (.int own), .val (.int stir), s4] ∧ free s4 = true) ?_
  (repeat' (first | array_get_dec | array_mem_dec))
  refine ⟨rfl, ⟨_, _, rfl, rfl⟩, ?_, ?_⟩
  · rintro j x ε2 hx ⟨stir, s4, rfl, f4⟩
    have hx' : ∃ i : Int, x = .int i := by
      have := List.mem_of_getElem? hx
      rw [← List.map_singleton, ← List.map_append] at this
      obtain ⟨i, _, rfl⟩ := List.mem_map.mp this
      exact ⟨i, rfl⟩
    obtain ⟨i, rfl⟩ := hx'
    refine ⟨_, tg_one (by (repeat (first | exact put_z rfl | exact put_z (by with_reducible assumption) | apply put_s))), ?_⟩
    (repeat' (first | array_get_dec | array_mem_dec))
    exact ⟨_, _, rfl, rfl⟩
  · rintro ε2 ⟨stir, s4, rfl, f4⟩
    (repeat' (first | array_get_dec | (refine bo_powI (by decide) (by decide) (by decide) ?_) | array_mem_dec))
    all_goals exact q _ _ _
end Law
end
section
set_option Elab.async false
set_option linter.all false
set_option maxRecDepth 100000
set_option maxHeartbeats 4000000
set_option hygiene false
local macro_rules | `(tactic| array_get_dec) => `(tactic| first | refine Eng.wb_cons ?_ | refine Eng.ws_asg ?_ | refine Eng.ws_ret ?_ | refine Eng.ws_ife ?_ | refine Eng.ws_asgT ?_ | refine Eng.ws_par ?_ | refine Eng.ws_exp ?_ | refine Eng.wb_nil ?_ | refine Eng.ws_pass ?_ | refine Eng.ws_retN ?_ | refine Eng.ws_subS ?_ | refine Eng.ws_fldS ?_ | refine Eng.ws_app rfl ?_ | refine Eng.ws_brk ?_ | refine Eng.ws_cont ?_ | refine Eng.wv_of ?_ | refine Eng.wn_of ?_ | refine Eng.wt_of ?_ | refine Eng.we_var rfl ?_ | refine Eng.lk_of rfl ?_ | refine Eng.we_lit ?_ | refine Eng.fzw_v ?_ | refine Eng.fzw_val rfl ?_ | refine Eng.fzw_o ?_ | (apply Eng.fzw_own rfl; · (repeat (first | exact Eng.set_z | apply Eng.set_s))) | refine Eng.wf_cons ?_ | refine Eng.wf_nil ?_ | refine Eng.wa_cons ?_ | refine Eng.wa_nil ?_ | refine Eng.we_tup ?_ | refine Eng.we_ix ?_ | refine Eng.we_bin ?_ | refine Eng.we_cmp ?_ | refine Eng.we_fld ?_ | refine Eng.we_call ?_ | refine Eng.we_meth ?_ | refine Eng.we_blt ?_ | refine Eng.we_lst ?_ | refine Eng.we_ife ?_ | refine Eng.we_and2 ?_ | refine Eng.we_or2 ?_ | refine Eng.we_not ?_ | refine Eng.we_neg ?_ | refine Eng.we_isB ?_ | refine Eng.we_isC ?_ | refine Eng.we_chn ?_ | refine Eng.we_slc ?_ | refine Eng.we_dget1 ?_ | refine Eng.we_dget2 ?_ | refine Eng.isd_of rfl ?_ | refine Eng.we_dsp ?_ | refine Eng.wd_cons ?_ | refine Eng.wd_nil ?_ | refine Eng.wo_no ?_ | refine Eng.wo_so ?_ | refine Eng.wts_nil ?_ | refine Eng.wts_one ?_ | refine Eng.wi_seq ?_ | refine Eng.wi_rng1 ?_ | refine Eng.wi_rng2 ?_ | refine Eng.wi_enum ?_ | refine Eng.wi_zip ?_ | refine Eng.bo_addI ?_ | refine Eng.bo_subI ?_ | refine Eng.cm_ltI ?_ | refine Eng.cm_leI ?_ | refine Eng.cm_gtI ?_ | refine Eng.cm_geI ?_ | refine Eng.cm_eqI ?_ | refine Eng.cm_neI ?_ | refine Eng.cm_eqS ?_ | refine Eng.cm_neS ?_ | refine Eng.cm_isN ?_ | refine Eng.cm_isnotN ?_ | refine Eng.cm_inD rfl ?_ | refine Eng.cm_ninD rfl ?_ | refine Eng.cm_inTS ?_ | refine Eng.cm_inLS ?_ | refine Eng.cm_ninTS ?_ | refine Eng.cm_ninLS ?_ | refine Eng.ix_t0 ?_ | refine Eng.ix_t1 ?_ | refine Eng.ix_t2 ?_ | refine Eng.ix_t3 ?_ | refine Eng.ix_t4 ?_ | refine Eng.ix_l0 ?_ | refine Eng.ix_l1 ?_ | refine Eng.ix_l2 ?_ | refine Eng.ix_T (by with_reducible assumption) ?_ | refine Eng.ix_L (by with_reducible assumption) ?_ | refine Eng.in_of ?_ | refine Eng.tupn_of rfl ?_ | refine Eng.hd_of ?_ | refine Eng.dct_of ?_ | refine Eng.bo_mulI (by first | exact Eng.small_l (by first | decide | with_reducible assumption) | exact Eng.small_r (by first | decide | with_reducible assumption) | exact Eng.small_r (Eng.small_of' (by omega) (by omega)) | exact Eng.small_l (Eng.small_of' (by omega) (by omega))) ?_ | refine Eng.bo_fdiv (by first | decide | with_reducible assumption | exact Eng.nat31_of (by omega) (by omega)) ?_ | refine Eng.bo_mod (by first | decide | omega) ?_ | refine Eng.bo_addT (by first | with_reducible assumption | decide) ?_ | refine Eng.bo_addL (by first | with_reducible assumption | decide) ?_ | refine Eng.bo_addS (by first | with_reducible assumption | decide) ?_ | refine Eng.bo_of (by with_reducible assumption) ?_ | refine Eng.cm_of (by with_reducible assumption) ?_ | refine Eng.ix_of (by with_reducible assumption) ?_ | refine Eng.sl_of (by with_reducible assumption) ?_ | refine Eng.bl_of (by with_reducible assumption) ?_ | refine Eng.bl_divmod (by first | decide | with_reducible assumption | exact Eng.nat31_of (by omega) (by omega)) ?_ | refine Eng.fd_of (by with_reducible assumption) ?_ | refine Eng.me_of (by with_reducible assumption) ?_ | refine Eng.call_plain rfl rfl ?_ | refine Eng.call_well rfl (fun _ => rfl) ?_ | refine Eng.set_l0 ?_ | refine Eng.set_l1 ?_ | refine Eng.set_l2 ?_ | (apply Eng.stw_v; · (repeat (first | exact Eng.put_z rfl | exact Eng.put_z (by with_reducible assumption) | apply Eng.put_s))) | (apply Eng.stw_o; · (repeat (first | exact Eng.put_z rfl | exact Eng.put_z (by with_reducible assumption) | apply Eng.put_s))) | (apply Eng.stw_val rfl; · (repeat (first | exact Eng.put_z rfl | exact Eng.put_z (by with_reducible assumption) | apply Eng.put_s))) | (apply Eng.stw_own rfl; · (repeat (first | exact Eng.set_z | apply Eng.set_s)); · (repeat (first | exact Eng.put_z rfl | exact Eng.put_z (by with_reducible assumption) | apply Eng.put_s))) | refine Eng.stws_nil ?_ | (apply Eng.stws_cons; · (repeat (first | exact Eng.put_z rfl | exact Eng.put_z (by with_reducible assumption) | apply Eng.put_s))) | refine Eng.tgw_nil ?_ | (apply Eng.tgw_nm; · (repeat (first | exact Eng.put_z rfl | exact Eng.put_z (by with_reducible assumption) | apply Eng.put_s))) | refine Eng.tgw_sub ?_ | (apply Eng.wrw_own rfl; · (repeat (first | exact Eng.set_z | apply Eng.set_s))) | (apply Eng.wrw_lent rfl; · (repeat (first | exact Eng.set_z | apply Eng.set_s))) | refine Eng.mvw_v ?_ | refine Eng.mvw_o ?_ | refine Eng.mvw_val rfl ?_ | (apply Eng.mvw_own rfl; · (repeat (first | exact Eng.set_z | apply Eng.set_s))))
local macro_rules | `(tactic| array_mem_dec) => `(tactic| first | refine Eng.fd_of rfl ?_ | refine Eng.me_of rfl ?_ | refine Eng.wc_of (by with_reducible assumption) ?_ | refine Eng.sm_of rfl ?_ | refine Eng.sm_of (by with_reducible assumption) ?_ | refine Eng.tr_of rfl ?_ | refine Eng.tr_of (by with_reducible assumption) ?_ | refine Eng.bl_of rfl ?_ | refine Eng.sl_of rfl ?_ | refine Eng.bo_of rfl ?_ | refine Eng.cm_of rfl ?_ | refine Eng.ix_of rfl ?_ | refine Eng.outs_of rfl ?_ | refine Eng.ifb_t (by first | rfl | with_reducible assumption | (simp only [Bool.not_eq_true']; with_reducible assumption) | (simp only [decide_eq_true_eq, beq_iff_eq, Bool.not_eq_true', bne_iff_ne, decide_eq_false_iff_not, beq_eq_false_iff_ne, ne_eq]; omega) | decide) ?_ | refine Eng.ifb_f (by first | rfl | with_reducible assumption | (simp only [Bool.not_eq_false']; with_reducible assumption) | (simp only [decide_eq_false_iff_not, beq_eq_false_iff_ne, Bool.not_eq_false', ne_eq, beq_iff_eq, decide_eq_true_eq]; omega) | decide) ?_ | exact ⟨rfl, rfl⟩ | exact rfl | (refine Eng.ifb_s (fun hc => ?_) (fun hc => ?_) <;> (try simp only [decide_eq_true_eq, decide_eq_false_iff_not, beq_iff_eq, beq_eq_false_iff_ne, ne_eq, Bool.not_eq_true', Bool.not_eq_false', Int.not_lt, Int.not_le] at hc)))
namespace Law
open Eng PySem
/-! ### rigs, cues -/
structure RG where
  chs : List Str
  top : Int
structure RG.Ok (g : RG) : Prop where
  asc : Asc g.chs
  nm : ∀ s ∈ g.chs, Nm s
  l1 : 1 ≤ g.chs.length
  l8 : g.chs.length ≤ 8
  t1 : 1 ≤ g.top
  t9 : g.top ≤ 9
abbrev RG.nv (g : RG) : Val := .tup (g.chs.map .str)
def RG.v (g : RG) : Val := .ins k_Rig [(Sl [99,104,97,110,110,101,108,115], g.nv), (Sl [116,111,112], .int g.top), (Sl [112,97,114,116,115], .tup [g.nv, .int g.top])]
theorem f_rig_channels (g : RG) : fldOf D (Sl [99,104,97,110,110,101,108,115]) g.v = some g.nv := rfl
theorem f_rig_top (g : RG) : fldOf D (Sl [116,111,112]) g.v = some (.int g.top) := rfl
theorem f_rig_parts (g : RG) : fldOf D (Sl [112,97,114,116,115]) g.v = some (.tup [g.nv, .int g.top]) := rfl
structure CU where
  num : Int
  mv : List (Str × Int)
  fade : Int
  fol : Option Int
  wh : Bool
def mvV (m : Str × Int) : Val := .tup [.str m.1, .int m.2]
def folV : Option Int → Val
  | none => .non
  | some i => .int i
def CU.v (c : CU) : Val := .tup [.int c.num, .tup (c.mv.map mvV), .int c.fade, folV c.fol, .bl c.wh]
structure CU.Ok (g : RG) (c : CU) : Prop where
  n1 : 1 ≤ c.num
  n2 : c.num ≤ 999
  mks : ∀ m ∈ c.mv, m.1 ∈ g.chs ∧ 0 ≤ m.2 ∧ m.2 ≤ g.top
  ma : c.mv.Pairwise fun a b => a.1.cps.toList < b.1.cps.toList
  ml : c.mv.length ≤ 8
  f0 : 0 ≤ c.fade
  f5 : c.fade ≤ 5
  fo : ∀ i, c.fol = some i → 1 ≤ i ∧ i ≤ 5
structure LOk (g : RG) (cs : List CU) : Prop where
  ok : ∀ c ∈ cs, c.Ok g
  asc : cs.Pairwise fun a b => a.num < b.num
  len : cs.length ≤ 20
/-! ### wholes, names -/
theorem e_is_whole (k : Nat) (i : Int) : Fk D (k+1) i_is_whole [.val (.int i)] = some (.v (.bl true), [.int i]) := by
  refine wc_eq ?_
  refine wc_fn (F_is_whole _ _) rfl (by simp only [startE, slotOf, List.map, List.length, List.replicate, List.cons_append, List.nil_append, List.length_cons, List.length_nil, Nat.reduceAdd, Nat.reduceSub]; rfl) ?_; show WB D _ B_is_whole _ _ _ _ _; unfold B_is_whole
  (repeat' (first | array_get_dec | array_mem_dec))
theorem e_is_number (k : Nat) (i a b : Int) (h1 : a ≤ i) (h2 : i ≤ b) : Fk D (k+2) i_is_number [.val (.int i), .val (.int a), .val (.int b)] = some (.v (.bl true), [.int i, .int a, .int b]) := by
  refine wc_eq ?_
  refine wc_fn (F_is_number _ _) rfl (by simp only [startE, slotOf, List.map, List.length, List.replicate, List.cons_append, List.nil_append, List.length_cons, List.length_nil, Nat.reduceAdd, Nat.reduceSub]; rfl) ?_; show WB D _ B_is_number _ _ _ _ _; unfold B_is_number
  (repeat' (first | array_get_dec | (refine wc_of (by (first | exact e_is_whole | apply e_is_whole) <;> (first | with_reducible assumption | omega | decide)) ?_) | array_mem_dec))
  simp [h2]
theorem e_need_number (k : Nat) (i a b : Int) (h1 : a ≤ i) (h2 : i ≤ b) : Fk D (k+3) i_need_number [.val (.int i), .val (.int a), .val (.int b)] = some (.v .non, [.int i, .int a, .int b]) := by
  refine wc_eq ?_
  refine wc_fn (F_need_number _ _) rfl (by simp only [startE, slotOf, List.map, List.length, List.replicate, List.cons_append, List.nil_append, List.length_cons, List.length_nil, Nat.reduceAdd, Nat.reduceSub]; rfl) ?_; show WB D _ B_need_number _ _ _ _ _; unfold B_need_number
  (repeat' (first | array_get_dec | (refine wc_of (by (first | exact e_is_number | apply e_is_number) <;> (first | with_reducible assumption | omega | decide)) ?_) | array_mem_dec))
theorem e_are_letters (k : Nat) (n : Str) (h : Nm n) : Fk D (k+1) i_are_letters [.val (.str n)] = some (.v (.bl true), [.str n]) := by
  refine wc_eq ?_
  refine wc_fn (F_are_letters _ _) rfl (by simp only [startE, slotOf, List.map, List.length, List.replicate, List.cons_append, List.nil_append, List.length_cons, List.length_nil, Nat.reduceAdd, Nat.reduceSub]; rfl) ?_; show WB D _ B_are_letters _ _ _ _ _; unfold B_are_letters
  have hz : n.length ≤ cap := Nat.le_trans h.len (by decide)
  have hw : walkV (.str n) = some (n.cps.toList.map fun c => Val.str ⟨#[c]⟩) := by
    simp only [walkV, hz, if_true]; rfl
  have hne := h.ne
  (repeat' (first | array_get_dec | array_mem_dec))
  refine we_lcD n.cps.toList (fun c => Val.str ⟨#[c]⟩) (fun _ => true) (fun _ => .bl true) ?_
  (repeat' (first | array_get_dec | array_mem_dec))
  refine ⟨rfl, hz, ⟨_, rfl, fun c hc => ?_⟩, ?_⟩
  · have hin : cmpo D.kds .In (.str ⟨#[c]⟩) (.str (Sl [97, 98, 99, 100, 101, 102, 103, 104, 105, 106, 107, 108, 109, 110, 111, 112, 113, 114, 115, 116, 117, 118, 119, 120, 121, 122])) = some true := by
      have := h.abc c hc
      unfold Law.abc at this
      simp only [cmpo, cmpop, isSign, Sl_toList, this, decide_true]
    refine ⟨_, rfl, ?_⟩
    (repeat' (first | array_get_dec | array_mem_dec))
    refine ⟨rfl, ?_⟩
    (repeat' (first | array_get_dec | array_mem_dec))
  · have hb := bls_true (n.cps.toList.filter fun _ => true)
    (repeat' (first | array_get_dec | (refine bl_all hb ?_) | array_mem_dec))
    simp
theorem e_is_name (k : Nat) (n : Str) (h : Nm n) : Fk D (k+2) i_is_name [.val (.str n)] = some (.v (.bl true), [.str n]) := by
  refine wc_eq ?_
  refine wc_fn (F_is_name _ _) rfl (by simp only [startE, slotOf, List.map, List.length, List.replicate, List.cons_append, List.nil_append, List.length_cons, List.length_nil, Nat.reduceAdd, Nat.reduceSub]; rfl) ?_; show WB D _ B_is_name _ _ _ _ _; unfold B_is_name
  have h3 : n.length ≤ cap := Nat.le_trans h.len (by decide)
  have hb : blt 0 [.str n] = some (.v (.int n.length)) := by simp only [blt, bLen, h3, if_true]
  have h4 : (n.length : Int) ≤ 8 := by have := h.len; omega
  have h5 : cmpo D.kds .NotIn (.str n) (.kd 1) = some true := by
    have h2 := h.word _ K_WORDS
    simp only [cmpo, cmpop, K_WORDS, h2]
    rfl
  (repeat' (first | array_get_dec | (refine wc_of (by (first | exact e_are_letters | apply e_are_letters) <;> (first | with_reducible assumption | omega | decide)) ?_) | array_mem_dec))
end Law
end
section
set_option Elab.async false
set_option linter.all false
set_option maxRecDepth 100000
set_option maxHeartbeats 4000000
set_option hygiene false
local macro_rules | `(tactic| array_get_dec) => `(tactic| first | refine Eng.wb_cons ?_ | refine Eng.ws_asg ?_ | refine Eng.ws_ret ?_ | refine Eng.ws_ife ?_ | refine Eng.ws_asgT ?_ | refine Eng.ws_par ?_ | refine Eng.ws_exp ?_ | refine Eng.wb_nil ?_ | refine Eng.ws_pass ?_ | refine Eng.ws_retN ?_ | refine Eng.ws_subS ?_ | refine Eng.ws_fldS ?_ | refine Eng.ws_app rfl ?_ | refine Eng.ws_brk ?_ | refine Eng.ws_cont ?_ | refine Eng.wv_of ?_ | refine Eng.wn_of ?_ | refine Eng.wt_of ?_ | refine Eng.we_var rfl ?_ | refine Eng.lk_of rfl ?_ | refine Eng.we_lit ?_ | refine Eng.fzw_v ?_ | refine Eng.fzw_val rfl ?_ | refine Eng.fzw_o ?_ | (apply Eng.fzw_own rfl; · (repeat (first | exact Eng.set_z | apply Eng.set_s))) | refine Eng.wf_cons ?_ | refine Eng.wf_nil ?_ | refine Eng.wa_cons ?_ | refine Eng.wa_nil ?_ | refine Eng.we_tup ?_ | refine Eng.we_ix ?_ | refine Eng.we_bin ?_ | refine Eng.we_cmp ?_ | refine Eng.we_fld ?_ | refine Eng.we_call ?_ | refine Eng.we_meth ?_ | refine Eng.we_blt ?_ | refine Eng.we_lst ?_ | refine Eng.we_ife ?_ | refine Eng.we_and2 ?_ | refine Eng.we_or2 ?_ | refine Eng.we_not ?_ | refine Eng.we_neg ?_ | refine Eng.we_isB ?_ | refine Eng.we_isC ?_ | refine Eng.we_chn ?_ | refine Eng.we_slc ?_ | refine Eng.we_dget1 ?_ | refine Eng.we_dget2 ?_ | refine Eng.isd_of rfl ?_ | refine Eng.we_dsp ?_ | refine Eng.wd_cons ?_ | refine Eng.wd_nil ?_ | refine Eng.wo_no ?_ | refine Eng.wo_so ?_ | refine Eng.wts_nil ?_ | refine Eng.wts_one ?_ | refine Eng.wi_seq ?_ | refine Eng.wi_rng1 ?_ | refine Eng.wi_rng2 ?_ | refine Eng.wi_enum ?_ | refine Eng.wi_zip ?_ | refine Eng.bo_addI ?_ | refine Eng.bo_subI ?_ | refine Eng.cm_ltI ?_ | refine Eng.cm_leI ?_ | refine Eng.cm_gtI ?_ | refine Eng.cm_geI ?_ | refine Eng.cm_eqI ?_ | refine Eng.cm_neI ?_ | refine Eng.cm_eqS ?_ | refine Eng.cm_neS ?_ | refine Eng.cm_isN ?_ | refine Eng.cm_isnotN ?_ | refine Eng.cm_inD rfl ?_ | refine Eng.cm_ninD rfl ?_ | refine Eng.cm_inTS ?_ | refine Eng.cm_inLS ?_ | refine Eng.cm_ninTS ?_ | refine Eng.cm_ninLS ?_ | refine Eng.ix_t0 ?_ | refine Eng.ix_t1 ?_ | refine Eng.ix_t2 ?_ | refine Eng.ix_t3 ?_ | refine Eng.ix_t4 ?_ | refine Eng.ix_l0 ?_ | refine Eng.ix_l1 ?_ | refine Eng.ix_l2 ?_ | refine Eng.ix_T (by with_reducible assumption) ?_ | refine Eng.ix_L (by with_reducible assumption) ?_ | refine Eng.in_of ?_ | refine Eng.tupn_of rfl ?_ | refine Eng.hd_of ?_ | refine Eng.dct_of ?_ | refine Eng.bo_mulI (by first | exact Eng.small_l (by first | decide | with_reducible assumption) | exact Eng.small_r (by first | decide | with_reducible assumption) | exact Eng.small_r (Eng.small_of' (by omega) (by omega)) | exact Eng.small_l (Eng.small_of' (by omega) (by omega))) ?_ | refine Eng.bo_fdiv (by first | decide | with_reducible assumption | exact Eng.nat31_of (by omega) (by omega)) ?_ | refine Eng.bo_mod (by first | decide | omega) ?_ | refine Eng.bo_addT (by first | with_reducible assumption | decide) ?_ | refine Eng.bo_addL (by first | with_reducible assumption | decide) ?_ | refine Eng.bo_addS (by first | with_reducible assumption | decide) ?_ | refine Eng.bo_of (by with_reducible assumption) ?_ | refine Eng.cm_of (by with_reducible assumption) ?_ | refine Eng.ix_of (by with_reducible assumption) ?_ | refine Eng.sl_of (by with_reducible assumption) ?_ | refine Eng.bl_of (by with_reducible assumption) ?_ | refine Eng.bl_divmod (by first | decide | with_reducible assumption | exact Eng.nat31_of (by omega) (by omega)) ?_ | refine Eng.fd_of (by with_reducible assumption) ?_ | refine Eng.me_of (by with_reducible assumption) ?_ | refine Eng.call_plain rfl rfl ?_ | refine Eng.call_well rfl (fun _ => rfl) ?_ | refine Eng.set_l0 ?_ | refine Eng.set_l1 ?_ | refine Eng.set_l2 ?_ | (apply Eng.stw_v; · (repeat (first | exact Eng.put_z rfl | exact Eng.put_z (by with_reducible assumption) | apply Eng.put_s))) | (apply Eng.stw_o; · (repeat (first | exact Eng.put_z rfl | exact Eng.put_z (by with_reducible assumption) | apply Eng.put_s))) | (apply Eng.stw_val rfl; · (repeat (first | exact Eng.put_z rfl | exact Eng.put_z (by with_reducible assumption) | apply Eng.put_s))) | (apply Eng.stw_own rfl; · (repeat (first | exact Eng.set_z | apply Eng.set_s)); · (repeat (first | exact Eng.put_z rfl | exact Eng.put_z (by with_reducible assumption) | apply Eng.put_s))) | refine Eng.stws_nil ?_ | (apply Eng.stws_cons; · (repeat (first | exact Eng.put_z rfl | exact Eng.put_z (by with_reducible assumption) | apply Eng.put_s))) | refine Eng.tgw_nil ?_ | (apply Eng.tgw_nm; · (repeat (first | exact Eng.put_z rfl | exact Eng.put_z (by with_reducible assumption) | apply Eng.put_s))) | refine Eng.tgw_sub ?_ | (apply Eng.wrw_own rfl; · (repeat (first | exact Eng.set_z | apply Eng.set_s))) | (apply Eng.wrw_lent rfl; · (repeat (first | exact Eng.set_z | apply Eng.set_s))) | refine Eng.mvw_v ?_ | refine Eng.mvw_o ?_ | refine Eng.mvw_val rfl ?_ | (apply Eng.mvw_own rfl; · (repeat (first | exact Eng.set_z | apply Eng.set_s))))
local macro_rules | `(tactic| array_mem_dec) => `(tactic| first | refine Eng.fd_of rfl ?_ | refine Eng.me_of rfl ?_ | refine Eng.wc_of (by with_reducible assumption) ?_ | refine Eng.sm_of rfl ?_ | refine Eng.sm_of (by with_reducible assumption) ?_ | refine Eng.tr_of rfl ?_ | refine Eng.tr_of (by with_reducible assumption) ?_ | refine Eng.bl_of rfl ?_ | refine Eng.sl_of rfl ?_ | refine Eng.bo_of rfl ?_ | refine Eng.cm_of rfl ?_ | refine Eng.ix_of rfl ?_ | refine Eng.outs_of rfl ?_ | refine Eng.ifb_t (by first | rfl | with_reducible assumption | (simp only [Bool.not_eq_true']; with_reducible assumption) | (simp only [decide_eq_true_eq, beq_iff_eq, Bool.not_eq_true', bne_iff_ne, decide_eq_false_iff_not, beq_eq_false_iff_ne, ne_eq]; omega) | decide) ?_ | refine Eng.ifb_f (by first | rfl | with_reducible assumption | (simp only [Bool.not_eq_false']; with_reducible assumption) | (simp only [decide_eq_false_iff_not, beq_eq_false_iff_ne, Bool.not_eq_false', ne_eq, beq_iff_eq, decide_eq_true_eq]; omega) | decide) ?_ | exact ⟨rfl, rfl⟩ | exact rfl | (refine Eng.ifb_s (fun hc => ?_) (fun hc => ?_) <;> (try simp only [decide_eq_true_eq, decide_eq_false_iff_not, beq_iff_eq, beq_eq_false_iff_ne, ne_eq, Bool.not_eq_true', Bool.not_eq_false', Int.not_lt, Int.not_le] at hc)))
namespace Law
open Eng PySem
/-! ### rigs -/
theorem enumV_map {α : Type} (f : α → Val) : ∀ (xs : List α) (n : Nat), enumV n (xs.map f) = (xs.zipIdx n).map fun p => Val.tup [.int (p.2 : Int), f p.1]
  | [], _ => rfl
  | x :: xs, n => by
    rw [List.map_cons, List.zipIdx_cons, List.map_cons]
    unfold enumV
    rw [enumV_map f xs (n + 1)]
theorem getElem?_zipIdx {α : Type} {xs : List α} {j : Nat} {p : α × Nat} (h : xs.zipIdx[j]? = some p) : xs[j]? = some p.1 ∧ p.2 = j := by
  rw [List.getElem?_zipIdx] at h
  cases e : xs[j]? with
  | none => rw [e] at h; cases h
  | some x =>
    rw [e] at h
    cases h
    exact ⟨rfl, by simp⟩
theorem asc_lt {l : List Str} (h : Asc l) {i j : Nat} {a b : Str} (hij : i < j) (ha : l[i]? = some a) (hb : l[j]? = some b) : a.cps.toList < b.cps.toList := by
  have hj : j < l.length := by
    rcases Nat.lt_or_ge j l.length with g | g
    · exact g
    · rw [List.getElem?_eq_none g] at hb; cases hb
  have hi : i < l.length := by omega
  rw [List.getElem?_eq_getElem hi] at ha
  rw [List.getElem?_eq_getElem hj] at hb
  cases ha; cases hb
  exact (List.pairwise_iff_getElem.mp h) i j hi hj hij
theorem atI_map {α : Type} {f : α → Val} {xs : List α} {j : Nat} {x : α} (h : xs[j]? = some x) : L2.atI (xs.map f) (j : Int) = some (f x) :=
  atI_lit (by rw [List.getElem?_map, h]; rfl)
theorem e_first_wrong_name (k : Nat) (l : List Str) (h1 : Asc l) (h2 : ∀ s ∈ l, Nm s) : Fk D (k+3) i_first_wrong_name [.val (.tup (l.map .str))] = some (.v .non, [.tup (l.map .str)]) := by
  refine wc_eq ?_
  refine wc_fn (F_first_wrong_name _ _) rfl (by simp only [startE, slotOf, List.map, List.length, List.replicate, List.cons_append, List.nil_append, List.length_cons, List.length_nil, Nat.reduceAdd, Nat.reduceSub]; rfl) ?_; show WB D _ B_first_wrong_name _ _ _ _ _; unfold B_first_wrong_name
  (repeat' (first | array_get_dec | array_mem_dec))
  refine ws_forF (fun i ε => ∃ s1 s2, ε = [.val (.tup (l.map .str)), s1, s2] ∧ free s1 = true ∧ free s2 = true) ?_
  (repeat' (first | array_get_dec | array_mem_dec))
  rw [enumV_map]
  refine ⟨rfl, ⟨_, _, rfl, rfl, rfl⟩, ?_, ?_⟩
  · rintro j x ε2 hx ⟨s1, s2, rfl, f1, f2⟩
    rw [List.getElem?_map] at hx
    cases e : (l.zipIdx 0)[j]? with
    | none => rw [e] at hx; cases hx
    | some p =>
      rw [e] at hx
      cases hx
      obtain ⟨s, i⟩ := p
      obtain ⟨e1, e2⟩ := getElem?_zipIdx e
      have e2 : i = j := e2
      subst e2
      have e1 : l[i]? = some s := e1
      have hn := e_is_name k s (h2 s (List.mem_of_getElem? e1))
      refine ⟨_, tg_two (by (repeat (first | exact put_z rfl | exact put_z (by with_reducible assumption) | apply put_s))) (by (repeat (first | exact put_z rfl | exact put_z (by with_reducible assumption) | apply put_s))), ?_⟩
      (repeat' (first | array_get_dec | array_mem_dec))
      · have hi : i - 1 < l.length := by
          have : i < l.length := by
            rcases Nat.lt_or_ge i l.length with g | g
            · exact g
            · rw [List.getElem?_eq_none g] at e1; cases e1
          omega
        have ht : l[i - 1]? = some l[i - 1] := List.getElem?_eq_getElem hi
        have hat : L2.atI (l.map Val.str) ((i : Int) - 1) = some (.str l[i - 1]) := by
          rw [show (i : Int) - 1 = ((i - 1 : Nat) : Int) by omega]
          exact atI_map ht
        have hlt := asc_lt h1 (show i - 1 < i by omega) ht e1
        have hcm : cmpo D.kds .LtE (.str s) (.str l[i - 1]) = some false := by
          simp only [cmpo, cmpop, hlt, decide_true, Bool.not_true]
        (repeat' (first | array_get_dec | array_mem_dec))
        exact ⟨_, _, rfl, rfl, rfl⟩
      · exact ⟨_, _, rfl, rfl, rfl⟩
  · rintro ε2 ⟨s1, s2, rfl, f1, f2⟩
    (repeat' (first | array_get_dec | array_mem_dec))
theorem e_need_channels (k : Nat) (g : RG) (h : g.Ok) : Fk D (k+4) i_need_channels [.val g.nv] = some (.v .non, [g.nv]) := by
  refine wc_eq ?_
  refine wc_fn (F_need_channels _ _) rfl (by simp only [startE, slotOf, List.map, List.length, List.replicate, List.cons_append, List.nil_append, List.length_cons, List.length_nil, Nat.reduceAdd, Nat.reduceSub]; rfl) ?_; show WB D _ B_need_channels _ _ _ _ _; unfold B_need_channels
  have l1 := h.l1
  have l8 := h.l8
  have hs : slice g.nv none (some 8) = some (.v g.nv) := by
    have z : HT.sIx (g.chs.map Val.str).length 0 none = 0 := rfl
    have z2 : HT.sIx (g.chs.map Val.str).length (g.chs.map Val.str).length (some 8) = g.chs.length := by
      simp only [List.length_map]
      unfold HT.sIx
      simp
      omega
    simp only [slice, cutW, z, z2, Nat.sub_zero, List.drop_zero]
    rw [List.take_of_length_le (by simp)]
  have hne : ((g.chs.map Val.str).length : Int) ≠ 0 := by rw [List.length_map]; omega
  have hle : ¬ (8 : Int) < ((g.chs.map Val.str).length : Int) := by rw [List.length_map]; omega
  have hq := e_first_wrong_name k g.chs h.asc h.nm
  (repeat' (first | array_get_dec | array_mem_dec))
theorem e_Rig_init (k : Nat) (g : RG) (h : g.Ok) : Fk D (k+5) i_Rig___init__ [.lent (.ins k_Rig []), .val g.nv, .val (.int g.top)] = some (.v .non, [g.v, g.nv, .int g.top]) := by
  refine wc_eq ?_
  refine wc_fn (F_Rig___init__ _ _) rfl (by simp only [startE, slotOf, List.map, List.length, List.replicate, List.cons_append, List.nil_append, List.length_cons, List.length_nil, Nat.reduceAdd, Nat.reduceSub]; rfl) ?_; show WB D _ B_Rig___init__ _ _ _ _ _; unfold B_Rig___init__
  have hq := e_need_channels k g h
  have hq2 := e_need_number (k+1) g.top 1 9 h.t1 h.t9
  (repeat' (first | array_get_dec | array_mem_dec))
theorem e_need_rig (k : Nat) (g : RG) : Fk D (k+1) i_need_rig [.val g.v] = some (.v .non, [g.v]) := by
  refine wc_eq ?_
  refine wc_fn (F_need_rig _ _) rfl (by simp only [startE, slotOf, List.map, List.length, List.replicate, List.cons_append, List.nil_append, List.length_cons, List.length_nil, Nat.reduceAdd, Nat.reduceSub]; rfl) ?_; show WB D _ B_need_rig _ _ _ _ _; unfold B_need_rig
  (repeat' (first | array_get_dec | array_mem_dec))
theorem e_is_known (k : Nat) (g : RG) (n : Str) (h : n ∈ g.chs) : Fk D (k+1) i_is_known [.val (.str n), .val g.nv] = some (.v (.bl true), [.str n, g.nv]) := by
  refine wc_eq ?_
  refine wc_fn (F_is_known _ _) rfl (by simp only [startE, slotOf, List.map, List.length, List.replicate, List.cons_append, List.nil_append, List.length_cons, List.length_nil, Nat.reduceAdd, Nat.reduceSub]; rfl) ?_; show WB D _ B_is_known _ _ _ _ _; unfold B_is_known
  (repeat' (first | array_get_dec | array_mem_dec))
  simp [h]
theorem e_is_level (k : Nat) (g : RG) (i : Int) (h1 : 0 ≤ i) (h2 : i ≤ g.top) : Fk D (k+3) i_is_level [.val g.v, .val (.int i)] = some (.v (.bl true), [g.v, .int i]) := by
  refine wc_eq ?_
  refine wc_fn (F_is_level _ _) rfl (by simp only [startE, slotOf, List.map, List.length, List.replicate, List.cons_append, List.nil_append, List.length_cons, List.length_nil, Nat.reduceAdd, Nat.reduceSub]; rfl) ?_; show WB D _ B_is_level _ _ _ _ _; unfold B_is_level
  have hq := e_is_number k i 0 g.top h1 h2
  (repeat' (first | array_get_dec | refine fd_of f_rig_top g ?_ | refine me_of f_rig_top g ?_ | array_mem_dec))
end Law
end
section
set_option Elab.async false
set_option linter.all false
set_option maxRecDepth 100000
set_option maxHeartbeats 4000000
set_option hygiene false
local macro_rules | `(tactic| array_get_dec) => `(tactic| first | refine Eng.wb_cons ?_ | refine Eng.ws_asg ?_ | refine Eng.ws_ret ?_ | refine Eng.ws_ife ?_ | refine Eng.ws_asgT ?_ | refine Eng.ws_par ?_ | refine Eng.ws_exp ?_ | refine Eng.wb_nil ?_ | refine Eng.ws_pass ?_ | refine Eng.ws_retN ?_ | refine Eng.ws_subS ?_ | refine Eng.ws_fldS ?_ | refine Eng.ws_app rfl ?_ | refine Eng.ws_brk ?_ | refine Eng.ws_cont ?_ | refine Eng.wv_of ?_ | refine Eng.wn_of ?_ | refine Eng.wt_of ?_ | refine Eng.we_var rfl ?_ | refine Eng.lk_of rfl ?_ | refine Eng.we_lit ?_ | refine Eng.fzw_v ?_ | refine Eng.fzw_val rfl ?_ | refine Eng.fzw_o ?_ | (apply Eng.fzw_own rfl; · (repeat (first | exact Eng.set_z | apply Eng.set_s))) | refine Eng.wf_cons ?_ | refine Eng.wf_nil ?_ | refine Eng.wa_cons ?_ | refine Eng.wa_nil ?_ | refine Eng.we_tup ?_ | refine Eng.we_ix ?_ | refine Eng.we_bin ?_ | refine Eng.we_cmp ?_ | refine Eng.we_fld ?_ | refine Eng.we_call ?_ | refine Eng.we_meth ?_ | refine Eng.we_blt ?_ | refine Eng.we_lst ?_ | refine Eng.we_ife ?_ | refine Eng.we_and2 ?_ | refine Eng.we_or2 ?_ | refine Eng.we_not ?_ | refine Eng.we_neg ?_ | refine Eng.we_isB ?_ | refine Eng.we_isC ?_ | refine Eng.we_chn ?_ | refine Eng.we_slc ?_ | refine Eng.we_dget1 ?_ | refine Eng.we_dget2 ?_ | refine Eng.isd_of rfl ?_ | refine Eng.we_dsp ?_ | refine Eng.wd_cons ?_ | refine Eng.wd_nil ?_ | refine Eng.wo_no ?_ | refine Eng.wo_so ?_ | refine Eng.wts_nil ?_ | refine Eng.wts_one ?_ | refine Eng.wi_seq ?_ | refine Eng.wi_rng1 ?_ | refine Eng.wi_rng2 ?_ | refine Eng.wi_enum ?_ | refine Eng.wi_zip ?_ | refine Eng.bo_addI ?_ | refine Eng.bo_subI ?_ | refine Eng.cm_ltI ?_ | refine Eng.cm_leI ?_ | refine Eng.cm_gtI ?_ | refine Eng.cm_geI ?_ | refine Eng.cm_eqI ?_ | refine Eng.cm_neI ?_ | refine Eng.cm_eqS ?_ | refine Eng.cm_neS ?_ | refine Eng.cm_isN ?_ | refine Eng.cm_isnotN ?_ | refine Eng.cm_inD rfl ?_ | refine Eng.cm_ninD rfl ?_ | refine Eng.cm_inTS ?_ | refine Eng.cm_inLS ?_ | refine Eng.cm_ninTS ?_ | refine Eng.cm_ninLS ?_ | refine Eng.ix_t0 ?_ | refine Eng.ix_t1 ?_ | refine Eng.ix_t2 ?_ | refine Eng.ix_t3 ?_ | refine Eng.ix_t4 ?_ | refine Eng.ix_l0 ?_ | refine Eng.ix_l1 ?_ | refine Eng.ix_l2 ?_ | refine Eng.ix_T (by with_reducible assumption) ?_ | refine Eng.ix_L (by with_reducible assumption) ?_ | refine Eng.in_of ?_ | refine Eng.tupn_of rfl ?_ | refine Eng.hd_of ?_ | refine Eng.dct_of ?_ | refine Eng.bo_mulI (by first | exact Eng.small_l (by first | decide | with_reducible assumption) | exact Eng.small_r (by first | decide | with_reducible assumption) | exact Eng.small_r (Eng.small_of' (by omega) (by omega)) | exact Eng.small_l (Eng.small_of' (by omega) (by omega))) ?_ | refine Eng.bo_fdiv (by first | decide | with_reducible assumption | exact Eng.nat31_of (by omega) (by omega)) ?_ | refine Eng.bo_mod (by first | decide | omega) ?_ | refine Eng.bo_addT (by first | with_reducible assumption | decide) ?_ | refine Eng.bo_addL (by first | with_reducible assumption | decide) ?_ | refine Eng.bo_addS (by first | with_reducible assumption | decide) ?_ | refine Eng.bo_of (by with_reducible assumption) ?_ | refine Eng.cm_of (by with_reducible assumption) ?_ | refine Eng.ix_of (by with_reducible assumption) ?_ | refine Eng.sl_of (by with_reducible assumption) ?_ | refine Eng.bl_of (by with_reducible assumption) ?_ | refine Eng.bl_divmod (by first | decide | with_reducible assumption | exact Eng.nat31_of (by omega) (by omega)) ?_ | refine Eng.fd_of (by with_reducible assumption) ?_ | refine Eng.me_of (by with_reducible assumption) ?_ | refine Eng.call_plain rfl rfl ?_ | refine Eng.call_well rfl (fun _ => rfl) ?_ | refine Eng.set_l0 ?_ | refine Eng.set_l1 ?_ | refine Eng.set_l2 ?_ | (apply Eng.stw_v; · (repeat (first | exact Eng.put_z rfl | exact Eng.put_z (by with_reducible assumption) | apply Eng.put_s))) | (apply Eng.stw_o; · (repeat (first | exact Eng.put_z rfl | exact Eng.put_z (by with_reducible assumption) | apply Eng.put_s))) | (apply Eng.stw_val rfl; · (repeat (first | exact Eng.put_z rfl | exact Eng.put_z (by with_reducible assumption) | apply Eng.put_s))) | (apply Eng.stw_own rfl; · (repeat (first | exact Eng.set_z | apply Eng.set_s)); · (repeat (first | exact Eng.put_z rfl | exact Eng.put_z (by with_reducible assumption) | apply Eng.put_s))) | refine Eng.stws_nil ?_ | (apply Eng.stws_cons; · (repeat (first | exact Eng.put_z rfl | exact Eng.put_z (by with_reducible assumption) | apply Eng.put_s))) | refine Eng.tgw_nil ?_ | (apply Eng.tgw_nm; · (repeat (first | exact Eng.put_z rfl | exact Eng.put_z (by with_reducible assumption) | apply Eng.put_s))) | refine Eng.tgw_sub ?_ | (apply Eng.wrw_own rfl; · (repeat (first | exact Eng.set_z | apply Eng.set_s))) | (apply Eng.wrw_lent rfl; · (repeat (first | exact Eng.set_z | apply Eng.set_s))) | refine Eng.mvw_v ?_ | refine Eng.mvw_o ?_ | refine Eng.mvw_val rfl ?_ | (apply Eng.mvw_own rfl; · (repeat (first | exact Eng.set_z | apply Eng.set_s))))
local macro_rules | `(tactic| array_mem_dec) => `(tactic| first | refine Eng.fd_of rfl ?_ | refine Eng.me_of rfl ?_ | refine Eng.wc_of (by with_reducible assumption) ?_ | refine Eng.sm_of rfl ?_ | refine Eng.sm_of (by with_reducible assumption) ?_ | refine Eng.tr_of rfl ?_ | refine Eng.tr_of (by with_reducible assumption) ?_ | refine Eng.bl_of rfl ?_ | refine Eng.sl_of rfl ?_ | refine Eng.bo_of rfl ?_ | refine Eng.cm_of rfl ?_ | refine Eng.ix_of rfl ?_ | refine Eng.outs_of rfl ?_ | refine Eng.ifb_t (by first | rfl | with_reducible assumption | (simp only [Bool.not_eq_true']; with_reducible assumption) | (simp only [decide_eq_true_eq, beq_iff_eq, Bool.not_eq_true', bne_iff_ne, decide_eq_false_iff_not, beq_eq_false_iff_ne, ne_eq]; omega) | decide) ?_ | refine Eng.ifb_f (by first | rfl | with_reducible assumption | (simp only [Bool.not_eq_false']; with_reducible assumption) | (simp only [decide_eq_false_iff_not, beq_eq_false_iff_ne, Bool.not_eq_false', ne_eq, beq_iff_eq, decide_eq_true_eq]; omega) | decide) ?_ | exact ⟨rfl, rfl⟩ | exact rfl | (refine Eng.ifb_s (fun hc => ?_) (fun hc => ?_) <;> (try simp only [decide_eq_true_eq, decide_eq_false_iff_not, beq_iff_eq, beq_eq_false_iff_ne, ne_eq, Bool.not_eq_true', Bool.not_eq_false', Int.not_lt, Int.not_le] at hc)))
namespace Law
open Eng PySem
theorem e_is_move (k : Nat) (g : RG) (m : Str × Int) (h0 : m.1 ∈ g.chs) (h1 : 0 ≤ m.2) (h2 : m.2 ≤ g.top) : Fk D (k+4) i_is_move [.val g.v, .val (mvV m)] = some (.v (.bl true), [g.v, mvV m]) := by
  refine wc_eq ?_
  refine wc_fn (F_is_move _ _) rfl (by simp only [startE, slotOf, List.map, List.length, List.replicate, List.cons_append, List.nil_append, List.length_cons, List.length_nil, Nat.reduceAdd, Nat.reduceSub]; rfl) ?_; show WB D _ B_is_move _ _ _ _ _; unfold B_is_move
  have q1 := e_is_known (k+2) g m.1 h0
  have q2 := e_is_level k g m.2 h1 h2
  unfold mvV
  (repeat' (first | array_get_dec | refine fd_of f_rig_channels g ?_ | refine me_of f_rig_channels g ?_ | array_mem_dec))
theorem e_are_moves (k : Nat) (g : RG) (c : CU) (h : c.Ok g) : Fk D (k+5) i_are_moves [.val g.v, .val (.tup (c.mv.map mvV))] = some (.v (.bl true), [g.v, .tup (c.mv.map mvV)]) := by
  refine wc_eq ?_
  refine wc_fn (F_are_moves _ _) rfl (by simp only [startE, slotOf, List.map, List.length, List.replicate, List.cons_append, List.nil_append, List.length_cons, List.length_nil, Nat.reduceAdd, Nat.reduceSub]; rfl) ?_; show WB D _ B_are_moves _ _ _ _ _; unfold B_are_moves
  have hb := bls_true (c.mv.filter fun _ => true)
  have hml := h.ml
  refine wb_cut (fun ε => ε = [.val g.v, .val (.tup (c.mv.map mvV)), .un, .un]) ?_ ?_
  · (repeat' (first | array_get_dec | array_mem_dec))
    refine we_lcD c.mv mvV (fun _ => true) (fun _ => .bl true) ?_
    (repeat' (first | array_get_dec | array_mem_dec))
    refine ⟨rfl, cap_of (by omega), ⟨_, rfl, fun m hm => ?_⟩, ?_⟩
    · have q := e_is_move k g m (h.mks m hm).1 (h.mks m hm).2.1 (h.mks m hm).2.2
      refine ⟨_, rfl, ?_⟩
      (repeat' (first | array_get_dec | array_mem_dec))
      refine ⟨rfl, ?_⟩
      (repeat' (first | array_get_dec | array_mem_dec))
    · have e : (!((c.mv.filter fun _ => true).map fun _ => true).all id) = false := by simp
      (repeat' (first | array_get_dec | (refine bl_all hb ?_) | array_mem_dec))
  · rintro ε1 rfl
    (repeat' (first | array_get_dec | array_mem_dec))
    refine we_lcD (List.range (c.mv.length - 1)) (fun (i : Nat) => Val.int (1 + (i : Int))) (fun _ => true) (fun _ => .bl true) ?_
    (repeat' (first | array_get_dec | array_mem_dec))
    have hl : (c.mv.map mvV).length = c.mv.length := List.length_map ..
    refine ⟨?_, ?_, cap_of (by simp; omega), ⟨_, rfl, fun i hi => ?_⟩, ?_⟩
    · rw [hl, inR_of (by omega) (by omega), inR_of (by omega) (by omega)]; rfl
    · unfold rangeV
      rw [hl, show ((c.mv.length : Int) - 1).toNat = c.mv.length - 1 by omega]
    · have hi := List.mem_range.mp hi
      have e1 : c.mv[i]? = some c.mv[i] := List.getElem?_eq_getElem (by omega)
      have e2 : c.mv[i + 1]? = some c.mv[i + 1] := List.getElem?_eq_getElem (by omega)
      have a1 : L2.atI (c.mv.map mvV) (1 + (i : Int) - 1) = some (mvV c.mv[i]) := by
        rw [show 1 + (i : Int) - 1 = ((i : Nat) : Int) by omega]
        exact atI_map e1
      have a2 : L2.atI (c.mv.map mvV) (1 + (i : Int)) = some (mvV c.mv[i + 1]) := by
        rw [show 1 + (i : Int) = ((i + 1 : Nat) : Int) by omega]
        exact atI_map e2
      have hlt := (List.pairwise_iff_getElem.mp h.ma) i (i + 1) (by omega) (by omega) (by omega)
      have hcm : cmpo D.kds .Lt (.str c.mv[i].1) (.str c.mv[i + 1].1) = some true := by
        simp only [cmpo, cmpop, hlt, decide_true]
      unfold mvV at a1 a2 ⊢
      refine ⟨_, rfl, ?_⟩
      (repeat' (first | array_get_dec | array_mem_dec))
      refine ⟨rfl, ?_⟩
      (repeat' (first | array_get_dec | array_mem_dec))
    · have hb := bls_true ((List.range (c.mv.length - 1)).filter fun _ => true)
      (repeat' (first | array_get_dec | (refine bl_all hb ?_) | array_mem_dec))
      simp
theorem e_is_cue_number (k : Nat) (i : Int) (h1 : 1 ≤ i) (h2 : i ≤ 999) : Fk D (k+3) i_is_cue_number [.val (.int i)] = some (.v (.bl true), [.int i]) := by
  refine wc_eq ?_
  refine wc_fn (F_is_cue_number _ _) rfl (by simp only [startE, slotOf, List.map, List.length, List.replicate, List.cons_append, List.nil_append, List.length_cons, List.length_nil, Nat.reduceAdd, Nat.reduceSub]; rfl) ?_; show WB D _ B_is_cue_number _ _ _ _ _; unfold B_is_cue_number
  have q := e_is_number k i 1 999 h1 h2
  (repeat' (first | array_get_dec | array_mem_dec))
theorem e_is_follow (k : Nat) (o : Option Int) (h : ∀ i, o = some i → 1 ≤ i ∧ i ≤ 5) : Fk D (k+3) i_is_follow [.val (folV o)] = some (.v (.bl true), [folV o]) := by
  refine wc_eq ?_
  refine wc_fn (F_is_follow _ _) rfl (by simp only [startE, slotOf, List.map, List.length, List.replicate, List.cons_append, List.nil_append, List.length_cons, List.length_nil, Nat.reduceAdd, Nat.reduceSub]; rfl) ?_; show WB D _ B_is_follow _ _ _ _ _; unfold B_is_follow
  cases o with
  | none => (repeat' (first | array_get_dec | array_mem_dec))
  | some i =>
    have q := e_is_number k i 1 5 (h i rfl).1 (h i rfl).2
    unfold folV
    (repeat' (first | array_get_dec | array_mem_dec))
theorem e_is_truth (k : Nat) (b : Bool) : Fk D (k+1) i_is_truth [.val (.bl b)] = some (.v (.bl true), [.bl b]) := by
  refine wc_eq ?_
  refine wc_fn (F_is_truth _ _) rfl (by simp only [startE, slotOf, List.map, List.length, List.replicate, List.cons_append, List.nil_append, List.length_cons, List.length_nil, Nat.reduceAdd, Nat.reduceSub]; rfl) ?_; show WB D _ B_is_truth _ _ _ _ _; unfold B_is_truth
  (repeat' (first | array_get_dec | array_mem_dec))
theorem e_is_cue (k : Nat) (g : RG) (c : CU) (h : c.Ok g) : Fk D (k+6) i_is_cue [.val g.v, .val c.v] = some (.v (.bl true), [g.v, c.v]) := by
  refine wc_eq ?_
  refine wc_fn (F_is_cue _ _) rfl (by simp only [startE, slotOf, List.map, List.length, List.replicate, List.cons_append, List.nil_append, List.length_cons, List.length_nil, Nat.reduceAdd, Nat.reduceSub]; rfl) ?_; show WB D _ B_is_cue _ _ _ _ _; unfold B_is_cue
  have q1 := e_is_cue_number (k+2) c.num h.n1 h.n2
  have q2 := e_are_moves k g c h
  have q3 := e_is_number (k+3) c.fade 0 5 h.f0 h.f5
  have q4 := e_is_follow (k+2) c.fol h.fo
  have q5 := e_is_truth (k+4) c.wh
  unfold CU.v
  (repeat' (first | array_get_dec | array_mem_dec))
theorem e_first_wrong_cue (k : Nat) (g : RG) (cs : List CU) (h : LOk g cs) : Fk D (k+7) i_first_wrong_cue [.val g.v, .val (.tup (cs.map CU.v))] = some (.v .non, [g.v, .tup (cs.map CU.v)]) := by
  refine wc_eq ?_
  refine wc_fn (F_first_wrong_cue _ _) rfl (by simp only [startE, slotOf, List.map, List.length, List.replicate, List.cons_append, List.nil_append, List.length_cons, List.length_nil, Nat.reduceAdd, Nat.reduceSub]; rfl) ?_; show WB D _ B_first_wrong_cue _ _ _ _ _; unfold B_first_wrong_cue
  have hlen := h.len
  (repeat' (first | array_get_dec | array_mem_dec))
  refine ws_forF (fun i ε => ∃ s1 s2, ε = [.val g.v, .val (.tup (cs.map CU.v)), s1, s2] ∧ free s1 = true ∧ free s2 = true) ?_
  (repeat' (first | array_get_dec | array_mem_dec))
  rw [enumV_map]
  refine ⟨rfl, ⟨_, _, rfl, rfl, rfl⟩, ?_, ?_⟩
  · rintro j x ε2 hx ⟨s1, s2, rfl, f1, f2⟩
    rw [List.getElem?_map] at hx
    cases e : (cs.zipIdx 0)[j]? with
    | none => rw [e] at hx; cases hx
    | some p =>
      rw [e] at hx
      cases hx
      obtain ⟨s, i⟩ := p
      obtain ⟨e1, e2⟩ := getElem?_zipIdx e
      have e2 : i = j := e2
      subst e2
      have e1 : cs[i]? = some s := e1
      have hi : i < cs.length := by
        rcases Nat.lt_or_ge i cs.length with g | g
        · exact g
        · rw [List.getElem?_eq_none g] at e1; cases e1
      have hn := e_is_cue k g s (h.ok s (List.mem_of_getElem? e1))
      refine ⟨_, tg_two (by (repeat (first | exact put_z rfl | exact put_z (by with_reducible assumption) | apply put_s))) (by (repeat (first | exact put_z rfl | exact put_z (by with_reducible assumption) | apply put_s))), ?_⟩
      (repeat' (first | array_get_dec | array_mem_dec))
      · have ht : cs[i - 1]? = some cs[i - 1] := List.getElem?_eq_getElem (by omega)
        have hat : L2.atI (cs.map CU.v) ((i : Int) - 1) = some cs[i - 1].v := by
          rw [show (i : Int) - 1 = ((i - 1 : Nat) : Int) by omega]
          exact atI_map ht
        have hlt := (List.pairwise_iff_getElem.mp h.asc) (i - 1) i (by omega) (by omega) (by omega)
        have hs : s = cs[i] := by
          rw [List.getElem?_eq_getElem hi] at e1
          cases e1; rfl
        subst hs
        unfold CU.v at hat ⊢
        (repeat' (first | array_get_dec | array_mem_dec))
        exact ⟨_, _, rfl, rfl, rfl⟩
      · exact ⟨_, _, rfl, rfl, rfl⟩
  · rintro ε2 ⟨s1, s2, rfl, f1, f2⟩
    (repeat' (first | array_get_dec | array_mem_dec))
theorem e_need_cues (k : Nat) (g : RG) (cs : List CU) (h : LOk g cs) : Fk D (k+8) i_need_cues [.val g.v, .val (.tup (cs.map CU.v))] = some (.v .non, [g.v, .tup (cs.map CU.v)]) := by
  refine wc_eq ?_
  refine wc_fn (F_need_cues _ _) rfl (by simp only [startE, slotOf, List.map, List.length, List.replicate, List.cons_append, List.nil_append, List.length_cons, List.length_nil, Nat.reduceAdd, Nat.reduceSub]; rfl) ?_; show WB D _ B_need_cues _ _ _ _ _; unfold B_need_cues
  have q := e_first_wrong_cue k g cs h
  (repeat' (first | array_get_dec | array_mem_dec))
end Law
end
section
set_option Elab.async false
set_option linter.all false
set_option maxRecDepth 100000
set_option maxHeartbeats 4000000
set_option hygiene false
local macro_rules | `(tactic| array_get_dec) => `(tactic| first | refine Eng.wb_cons ?_ | refine Eng.ws_asg ?_ | refine Eng.ws_ret ?_ | refine Eng.ws_ife ?_ | refine Eng.ws_asgT ?_ | refine Eng.ws_par ?_ | refine Eng.ws_exp ?_ | refine Eng.wb_nil ?_ | refine Eng.ws_pass ?_ | refine Eng.ws_retN ?_ | refine Eng.ws_subS ?_ | refine Eng.ws_fldS ?_ | refine Eng.ws_app rfl ?_ | refine Eng.ws_brk ?_ | refine Eng.ws_cont ?_ | refine Eng.wv_of ?_ | refine Eng.wn_of ?_ | refine Eng.wt_of ?_ | refine Eng.we_var rfl ?_ | refine Eng.lk_of rfl ?_ | refine Eng.we_lit ?_ | refine Eng.fzw_v ?_ | refine Eng.fzw_val rfl ?_ | refine Eng.fzw_o ?_ | (apply Eng.fzw_own rfl; · (repeat (first | exact Eng.set_z | apply Eng.set_s))) | refine Eng.wf_cons ?_ | refine Eng.wf_nil ?_ | refine Eng.wa_cons ?_ | refine Eng.wa_nil ?_ | refine Eng.we_tup ?_ | refine Eng.we_ix ?_ | refine Eng.we_bin ?_ | refine Eng.we_cmp ?_ | refine Eng.we_fld ?_ | refine Eng.we_call ?_ | refine Eng.we_meth ?_ | refine Eng.we_blt ?_ | refine Eng.we_lst ?_ | refine Eng.we_ife ?_ | refine Eng.we_and2 ?_ | refine Eng.we_or2 ?_ | refine Eng.we_not ?_ | refine Eng.we_neg ?_ | refine Eng.we_isB ?_ | refine Eng.we_isC ?_ | refine Eng.we_chn ?_ | refine Eng.we_slc ?_ | refine Eng.we_dget1 ?_ | refine Eng.we_dget2 ?_ | refine Eng.isd_of rfl ?_ | refine Eng.we_dsp ?_ | refine Eng.wd_cons ?_ | refine Eng.wd_nil ?_ | refine Eng.wo_no ?_ | refine Eng.wo_so ?_ | refine Eng.wts_nil ?_ | refine Eng.wts_one ?_ | refine Eng.wi_seq ?_ | refine Eng.wi_rng1 ?_ | refine Eng.wi_rng2 ?_ | refine Eng.wi_enum ?_ | refine Eng.wi_zip ?_ | refine Eng.bo_addI ?_ | refine Eng.bo_subI ?_ | refine Eng.cm_ltI ?_ | refine Eng.cm_leI ?_ | refine Eng.cm_gtI ?_ | refine Eng.cm_geI ?_ | refine Eng.cm_eqI ?_ | refine Eng.cm_neI ?_ | refine Eng.cm_eqS ?_ | refine Eng.cm_neS ?_ | refine Eng.cm_isN ?_ | refine Eng.cm_isnotN ?_ | refine Eng.cm_inD rfl ?_ | refine Eng.cm_ninD rfl ?_ | refine Eng.cm_inTS ?_ | refine Eng.cm_inLS ?_ | refine Eng.cm_ninTS ?_ | refine Eng.cm_ninLS ?_ | refine Eng.ix_t0 ?_ | refine Eng.ix_t1 ?_ | refine Eng.ix_t2 ?_ | refine Eng.ix_t3 ?_ | refine Eng.ix_t4 ?_ | refine Eng.ix_l0 ?_ | refine Eng.ix_l1 ?_ | refine Eng.ix_l2 ?_ | refine Eng.ix_T (by with_reducible assumption) ?_ | refine Eng.ix_L (by with_reducible assumption) ?_ | refine Eng.in_of ?_ | refine Eng.tupn_of rfl ?_ | refine Eng.hd_of ?_ | refine Eng.dct_of ?_ | refine Eng.bo_mulI (by first | exact Eng.small_l (by first | decide | with_reducible assumption) | exact Eng.small_r (by first | decide | with_reducible assumption) | exact Eng.small_r (Eng.small_of' (by omega) (by omega)) | exact Eng.small_l (Eng.small_of' (by omega) (by omega))) ?_ | refine Eng.bo_fdiv (by first | decide | with_reducible assumption | exact Eng.nat31_of (by omega) (by omega)) ?_ | refine Eng.bo_mod (by first | decide | omega) ?_ | refine Eng.bo_addT (by first | with_reducible assumption | decide) ?_ | refine Eng.bo_addL (by first | with_reducible assumption | decide) ?_ | refine Eng.bo_addS (by first | with_reducible assumption | decide) ?_ | refine Eng.bo_of (by with_reducible assumption) ?_ | refine Eng.cm_of (by with_reducible assumption) ?_ | refine Eng.ix_of (by with_reducible assumption) ?_ | refine Eng.sl_of (by with_reducible assumption) ?_ | refine Eng.bl_of (by with_reducible assumption) ?_ | refine Eng.bl_divmod (by first | decide | with_reducible assumption | exact Eng.nat31_of (by omega) (by omega)) ?_ | refine Eng.fd_of (by with_reducible assumption) ?_ | refine Eng.me_of (by with_reducible assumption) ?_ | refine Eng.call_plain rfl rfl ?_ | refine Eng.call_well rfl (fun _ => rfl) ?_ | refine Eng.set_l0 ?_ | refine Eng.set_l1 ?_ | refine Eng.set_l2 ?_ | (apply Eng.stw_v; · (repeat (first | exact Eng.put_z rfl | exact Eng.put_z (by with_reducible assumption) | apply Eng.put_s))) | (apply Eng.stw_o; · (repeat (first | exact Eng.put_z rfl | exact Eng.put_z (by with_reducible assumption) | apply Eng.put_s))) | (apply Eng.stw_val rfl; · (repeat (first | exact Eng.put_z rfl | exact Eng.put_z (by with_reducible assumption) | apply Eng.put_s))) | (apply Eng.stw_own rfl; · (repeat (first | exact Eng.set_z | apply Eng.set_s)); · (repeat (first | exact Eng.put_z rfl | exact Eng.put_z (by with_reducible assumption) | apply Eng.put_s))) | refine Eng.stws_nil ?_ | (apply Eng.stws_cons; · (repeat (first | exact Eng.put_z rfl | exact Eng.put_z (by with_reducible assumption) | apply Eng.put_s))) | refine Eng.tgw_nil ?_ | (apply Eng.tgw_nm; · (repeat (first | exact Eng.put_z rfl | exact Eng.put_z (by with_reducible assumption) | apply Eng.put_s))) | refine Eng.tgw_sub ?_ | (apply Eng.wrw_own rfl; · (repeat (first | exact Eng.set_z | apply Eng.set_s))) | (apply Eng.wrw_lent rfl; · (repeat (first | exact Eng.set_z | apply Eng.set_s))) | refine Eng.mvw_v ?_ | refine Eng.mvw_o ?_ | refine Eng.mvw_val rfl ?_ | (apply Eng.mvw_own rfl; · (repeat (first | exact Eng.set_z | apply Eng.set_s))))
local macro_rules | `(tactic| array_mem_dec) => `(tactic| first | refine Eng.fd_of rfl ?_ | refine Eng.me_of rfl ?_ | refine Eng.wc_of (by with_reducible assumption) ?_ | refine Eng.sm_of rfl ?_ | refine Eng.sm_of (by with_reducible assumption) ?_ | refine Eng.tr_of rfl ?_ | refine Eng.tr_of (by with_reducible assumption) ?_ | refine Eng.bl_of rfl ?_ | refine Eng.sl_of rfl ?_ | refine Eng.bo_of rfl ?_ | refine Eng.cm_of rfl ?_ | refine Eng.ix_of rfl ?_ | refine Eng.outs_of rfl ?_ | refine Eng.ifb_t (by first | rfl | with_reducible assumption | (simp only [Bool.not_eq_true']; with_reducible assumption) | (simp only [decide_eq_true_eq, beq_iff_eq, Bool.not_eq_true', bne_iff_ne, decide_eq_false_iff_not, beq_eq_false_iff_ne, ne_eq]; omega) | decide) ?_ | refine Eng.ifb_f (by first | rfl | with_reducible assumption | (simp only [Bool.not_eq_false']; with_reducible assumption) | (simp only [decide_eq_false_iff_not, beq_eq_false_iff_ne, Bool.not_eq_false', ne_eq, beq_iff_eq, decide_eq_true_eq]; omega) | decide) ?_ | exact ⟨rfl, rfl⟩ | exact rfl | (refine Eng.ifb_s (fun hc => ?_) (fun hc => ?_) <;> (try simp only [decide_eq_true_eq, decide_eq_false_iff_not, beq_iff_eq, beq_eq_false_iff_ne, ne_eq, Bool.not_eq_true', Bool.not_eq_false', Int.not_lt, Int.not_le] at hc)))
namespace Law
open Eng PySem
def lookM (mv : List (Str × Int)) (s : Str) : Option Int := (mv.find? fun m => decide (m.1 = s)).map (·.2)
def mvD (mv : List (Str × Int)) : List (L2.Key × Val) := mv.map fun m => (.inr m.1, .int m.2)
theorem dget_mvD (mv : List (Str × Int)) (s : Str) : dget (mvD mv) (.inr s) = (lookM mv s).map .int := by
  unfold dget mvD lookM
  induction mv with
  | nil => rfl
  | cons m mv ih =>
    rw [List.map_cons, List.find?_cons, List.find?_cons]
    have e : decide ((Sum.inr m.1 : L2.Key) = .inr s) = decide (m.1 = s) := by
      congr 1
      exact propext ⟨fun h => by cases h; rfl, fun h => by rw [h]⟩
    simp only [e]
    cases decide (m.1 = s) with
    | true => rfl
    | false => exact ih
def lvV (l : List Int) : Val := .tup (l.map .int)
def behindM (chs : List Str) (ms : List Int) (c : CU) : List Int := (chs.zip ms).map fun p => (lookM c.mv p.1).getD p.2
theorem behindM_len {chs : List Str} {ms : List Int} {c : CU} (h : ms.length = chs.length) : (behindM chs ms c).length = chs.length := by
  simp [behindM, h]
theorem mv_ne {c : CU} {g : RG} (h : c.Ok g) : c.mv.Pairwise fun a b => (Sum.inr a.1 : L2.Key) ≠ .inr b.1 := by
  refine h.ma.imp fun {a b} hlt e => ?_
  have e : a.1 = b.1 := by cases a; cases b; simpa using e
  rw [e] at hlt
  exact List.lt_irrefl _ hlt
theorem e_meaning_behind (k : Nat) (g : RG) (ms : List Int) (c : CU) (hg : g.Ok) (h : c.Ok g) (hl : ms.length = g.chs.length) : Fk D (k+1) i_meaning_behind [.val g.v, .val (lvV ms), .val c.v] = some (.v (lvV (behindM g.chs ms c)), [g.v, lvV ms, c.v]) := by
  refine wc_eq ?_
  refine wc_fn (F_meaning_behind _ _) rfl (by simp only [startE, slotOf, List.map, List.length, List.replicate, List.cons_append, List.nil_append, List.length_cons, List.length_nil, Nat.reduceAdd, Nat.reduceSub]; rfl) ?_; show WB D _ B_meaning_behind _ _ _ _ _; unfold B_meaning_behind
  have l8 := hg.l8
  have ml := h.ml
  unfold CU.v
  (repeat' (first | array_get_dec | array_mem_dec))
  refine we_dcD c.mv mvV (fun _ => true) (fun m => .inr m.1) (fun m => .int m.2) ?_
  (repeat' (first | array_get_dec | array_mem_dec))
  refine ⟨rfl, cap_of (by omega), ⟨_, rfl, fun m hm => ?_⟩, ?_⟩
  · refine ⟨_, tg_two (by (repeat (first | exact put_z rfl | exact put_z (by with_reducible assumption) | apply put_s))) (by (repeat (first | exact put_z rfl | exact put_z (by with_reducible assumption) | apply put_s))), ?_⟩
    (repeat' (first | array_get_dec | array_mem_dec))
    refine ⟨rfl, ?_⟩
    (repeat' (first | array_get_dec | array_mem_dec))
    refine ⟨rfl, ?_⟩
    (repeat' (first | array_get_dec | array_mem_dec))
  · rw [filter_true, foldl_dput0 _ _ _ (mv_ne h)]
    (repeat' (first | array_get_dec | array_mem_dec))
    refine we_lcD (g.chs.zip ms) (fun p => .tup [.str p.1, .int p.2]) (fun _ => true) (fun p => .int ((lookM c.mv p.1).getD p.2)) ?_
    (repeat' (first | array_get_dec | refine fd_of f_rig_channels g ?_ | refine me_of f_rig_channels g ?_ | array_mem_dec))
    refine ⟨zipV_map _ _ _ _, cap_of (by simp; omega), ⟨_, rfl, fun p hp => ?_⟩, ?_⟩
    · refine ⟨_, tg_two (by (repeat (first | exact put_z rfl | exact put_z (by with_reducible assumption) | apply put_s))) (by (repeat (first | exact put_z rfl | exact put_z (by with_reducible assumption) | apply put_s))), ?_⟩
      (repeat' (first | array_get_dec | array_mem_dec))
      refine ⟨rfl, ?_⟩
      (repeat' (first | array_get_dec | array_mem_dec))
      have e := dget_mvD c.mv p.1
      unfold mvD at e
      rw [e]
      cases lookM c.mv p.1 <;> exact ⟨rfl, rfl⟩
    · rw [filter_true]
      (repeat' (first | array_get_dec | array_mem_dec))
      all_goals (unfold lvV behindM; rw [List.map_map]; exact ⟨rfl, rfl⟩)
def meanAt (g : RG) (cs : List CU) (i : Nat) : List Int := (cs.take i).foldl (behindM g.chs) (List.replicate g.chs.length 0)
theorem meanAt_len (g : RG) (cs : List CU) : ∀ i, (meanAt g cs i).length = g.chs.length := by
  have key : ∀ (l : List CU) (m : List Int), m.length = g.chs.length → (l.foldl (behindM g.chs) m).length = g.chs.length := by
    intro l
    induction l with
    | nil => intro m h; exact h
    | cons c l ih => intro m h; exact ih _ (behindM_len h)
  intro i
  exact key _ _ (by simp)
theorem meanAt_succ (g : RG) (cs : List CU) (i : Nat) (c : CU) (h : cs[i]? = some c) : meanAt g cs (i + 1) = behindM g.chs (meanAt g cs i) c := by
  unfold meanAt
  have hi : i < cs.length := by
    rcases Nat.lt_or_ge i cs.length with g | g
    · exact g
    · rw [List.getElem?_eq_none g] at h; cases h
  rw [List.take_succ, h]
  simp only [Option.toList, List.foldl_append, List.foldl_cons, List.foldl_nil]
def meansV (g : RG) (cs : List CU) : Val := .tup ((List.range (cs.length + 1)).map fun i => lvV (meanAt g cs i))
theorem e_meanings (k : Nat) (g : RG) (cs : List CU) (hg : g.Ok) (h : LOk g cs) : Fk D (k+2) i_meanings [.val g.v, .val (.tup (cs.map CU.v))] = some (.v (meansV g cs), [g.v, .tup (cs.map CU.v)]) := by
  refine wc_eq ?_
  refine wc_fn (F_meanings _ _) rfl (by simp only [startE, slotOf, List.map, List.length, List.replicate, List.cons_append, List.nil_append, List.length_cons, List.length_nil, Nat.reduceAdd, Nat.reduceSub]; rfl) ?_; show WB D _ B_meanings _ _ _ _ _; unfold B_meanings
  have l8 := hg.l8
  have l20 := h.len
  have hb := binop_mulT (v := .int 0) (k := ((g.chs.map Val.str).length : Int)) (by omega) (by rw [List.length_map]; omega)
  have h0 : List.replicate (((g.chs.map Val.str).length : Int)).toNat (Val.int 0) = (meanAt g cs 0).map .int := by
    simp [meanAt]
  rw [h0] at hb
  (repeat' (first | array_get_dec | refine fd_of f_rig_channels g ?_ | refine me_of f_rig_channels g ?_ | array_mem_dec))
  refine ws_forF (fun j ε => ∃ s, ε = [.val g.v, .val (.tup (cs.map CU.v)), .own (.lst ((List.range (j + 1)).map fun i => lvV (meanAt g cs i))), s] ∧ free s = true) ?_
  (repeat' (first | array_get_dec | array_mem_dec))
  refine ⟨rfl, ⟨_, rfl, rfl⟩, ?_, ?_⟩
  · rintro j x ε2 hx ⟨s, rfl, f1⟩
    rw [List.getElem?_map] at hx
    cases e : cs[j]? with
    | none => rw [e] at hx; cases hx
    | some c =>
      rw [e] at hx
      cases hx
      have hj : j < cs.length := by
        rcases Nat.lt_or_ge j cs.length with g | g
        · exact g
        · rw [List.getElem?_eq_none g] at e; cases e
      have hat : L2.atI ((List.range (j + 1)).map fun i => lvV (meanAt g cs i)) (-1) = some (lvV (meanAt g cs j)) := by
        rw [List.range_succ, List.map_append]
        exact atI_last _ _
      have hq := e_meaning_behind k g (meanAt g cs j) c hg (h.ok c (List.mem_of_getElem? e)) (meanAt_len g cs j)
      rw [← meanAt_succ g cs j c e] at hq
      have hc : ((List.range (j + 1)).map fun i => lvV (meanAt g cs i)).length < cap := by
        rw [List.length_map, List.length_range]
        exact cap_lt (by omega)
      refine ⟨_, tg_one (by (repeat (first | exact put_z rfl | exact put_z (by with_reducible assumption) | apply put_s))), ?_⟩
      (repeat' (first | array_get_dec | array_mem_dec))
      refine ⟨hc, ?_⟩
      (repeat' (first | array_get_dec | array_mem_dec))
      refine ⟨.val c.v, ?_, rfl⟩
      rw [List.range_succ (n := j + 1), List.map_append]
      rfl
  · rintro ε2 ⟨s, rfl, f1⟩
    rw [List.length_map]
    (repeat' (first | array_get_dec | array_mem_dec))
def placesD (cs : List CU) : List (L2.Key × Val) := (cs.zipIdx 0).map fun p => (.inl p.1.num, .int (p.2 : Int))
theorem num_ne {g : RG} {cs : List CU} (h : LOk g cs) : (cs.zipIdx 0).Pairwise fun a b => (Sum.inl a.1.num : L2.Key) ≠ .inl b.1.num := by
  have key : ((cs.zipIdx 0).map (·.1)).Pairwise fun a b => a.num < b.num := by
    rw [List.zipIdx_map_fst]
    exact h.asc
  rw [List.pairwise_map] at key
  refine key.imp fun {a b} hlt e => ?_
  have e : a.1.num = b.1.num := by simpa using e
  omega
def clV (g : RG) (cs : List CU) : Val := .ins k_CueList [(Sl [114,105,103], g.v), (Sl [99,117,101,115], .tup (cs.map CU.v)), (Sl [112,97,114,116,115], .tup [.tup [g.nv, .int g.top], .tup (cs.map CU.v)]), (Sl [109,101,97,110,115], meansV g cs), (Sl [112,108,97,99,101,115], .dct (placesD cs))]
theorem f_cl_rig (g : RG) (cs : List CU) : fldOf D (Sl [114,105,103]) (clV g cs) = some g.v := rfl
theorem f_cl_cues (g : RG) (cs : List CU) : fldOf D (Sl [99,117,101,115]) (clV g cs) = some (.tup (cs.map CU.v)) := rfl
theorem f_cl_means (g : RG) (cs : List CU) : fldOf D (Sl [109,101,97,110,115]) (clV g cs) = some (meansV g cs) := rfl
theorem f_cl_places (g : RG) (cs : List CU) : fldOf D (Sl [112,108,97,99,101,115]) (clV g cs) = some (.dct (placesD cs)) := rfl
theorem e_CueList_init (k : Nat) (g : RG) (cs : List CU) (hg : g.Ok) (h : LOk g cs) : Fk D (k+9) i_CueList___init__ [.lent (.ins k_CueList []), .val g.v, .val (.tup (cs.map CU.v))] = some (.v .non, [clV g cs, g.v, .tup (cs.map CU.v)]) := by
  refine wc_eq ?_
  refine wc_fn (F_CueList___init__ _ _) rfl (by simp only [startE, slotOf, List.map, List.length, List.replicate, List.cons_append, List.nil_append, List.length_cons, List.length_nil, Nat.reduceAdd, Nat.reduceSub]; rfl) ?_; show WB D _ B_CueList___init__ _ _ _ _ _; unfold B_CueList___init__
  have l20 := h.len
  have q1 := e_need_rig (k+7) g
  have q2 := e_need_cues k g cs h
  have q3 := e_meanings (k+6) g cs hg h
  (repeat' (first | array_get_dec | refine fd_of f_rig_parts g ?_ | refine me_of f_rig_parts g ?_ | array_mem_dec))
  refine we_dcD (cs.zipIdx 0) (fun p => .tup [.int (p.2 : Int), p.1.v]) (fun _ => true) (fun p => .inl p.1.num) (fun p => .int (p.2 : Int)) ?_
  (repeat' (first | array_get_dec | array_mem_dec))
  refine ⟨enumV_map _ _ _, cap_of (by simp; omega), ⟨_, rfl, fun p hp => ?_⟩, ?_⟩
  · refine ⟨_, tg_two (by (repeat (first | exact put_z rfl | exact put_z (by with_reducible assumption) | apply put_s))) (by (repeat (first | exact put_z rfl | exact put_z (by with_reducible assumption) | apply put_s))), ?_⟩
    unfold CU.v
    (repeat' (first | array_get_dec | array_mem_dec))
    refine ⟨rfl, ?_⟩
    (repeat' (first | array_get_dec | array_mem_dec))
    refine ⟨rfl, ?_⟩
    (repeat' (first | array_get_dec | array_mem_dec))
  · rw [filter_true, foldl_dput0 _ _ _ (num_ne h)]
    (repeat' (first | array_get_dec | array_mem_dec))
end Law
end
section
set_option Elab.async false
set_option linter.all false
set_option maxRecDepth 100000
set_option maxHeartbeats 4000000
set_option hygiene false
local macro_rules | `(tactic| array_get_dec) => `(tactic| first | refine Eng.wb_cons ?_ | refine Eng.ws_asg ?_ | refine Eng.ws_ret ?_ | refine Eng.ws_ife ?_ | refine Eng.ws_asgT ?_ | refine Eng.ws_par ?_ | refine Eng.ws_exp ?_ | refine Eng.wb_nil ?_ | refine Eng.ws_pass ?_ | refine Eng.ws_retN ?_ | refine Eng.ws_subS ?_ | refine Eng.ws_fldS ?_ | refine Eng.ws_app rfl ?_ | refine Eng.ws_brk ?_ | refine Eng.ws_cont ?_ | refine Eng.wv_of ?_ | refine Eng.wn_of ?_ | refine Eng.wt_of ?_ | refine Eng.we_var rfl ?_ | refine Eng.lk_of rfl ?_ | refine Eng.we_lit ?_ | refine Eng.fzw_v ?_ | refine Eng.fzw_val rfl ?_ | refine Eng.fzw_o ?_ | (apply Eng.fzw_own rfl; · (repeat (first | exact Eng.set_z | apply Eng.set_s))) | refine Eng.wf_cons ?_ | refine Eng.wf_nil ?_ | refine Eng.wa_cons ?_ | refine Eng.wa_nil ?_ | refine Eng.we_tup ?_ | refine Eng.we_ix ?_ | refine Eng.we_bin ?_ | refine Eng.we_cmp ?_ | refine Eng.we_fld ?_ | refine Eng.we_call ?_ | refine Eng.we_meth ?_ | refine Eng.we_blt ?_ | refine Eng.we_lst ?_ | refine Eng.we_ife ?_ | refine Eng.we_and2 ?_ | refine Eng.we_or2 ?_ | refine Eng.we_not ?_ | refine Eng.we_neg ?_ | refine Eng.we_isB ?_ | refine Eng.we_isC ?_ | refine Eng.we_chn ?_ | refine Eng.we_slc ?_ | refine Eng.we_dget1 ?_ | refine Eng.we_dget2 ?_ | refine Eng.isd_of rfl ?_ | refine Eng.we_dsp ?_ | refine Eng.wd_cons ?_ | refine Eng.wd_nil ?_ | refine Eng.wo_no ?_ | refine Eng.wo_so ?_ | refine Eng.wts_nil ?_ | refine Eng.wts_one ?_ | refine Eng.wi_seq ?_ | refine Eng.wi_rng1 ?_ | refine Eng.wi_rng2 ?_ | refine Eng.wi_enum ?_ | refine Eng.wi_zip ?_ | refine Eng.bo_addI ?_ | refine Eng.bo_subI ?_ | refine Eng.cm_ltI ?_ | refine Eng.cm_leI ?_ | refine Eng.cm_gtI ?_ | refine Eng.cm_geI ?_ | refine Eng.cm_eqI ?_ | refine Eng.cm_neI ?_ | refine Eng.cm_eqS ?_ | refine Eng.cm_neS ?_ | refine Eng.cm_isN ?_ | refine Eng.cm_isnotN ?_ | refine Eng.cm_inD rfl ?_ | refine Eng.cm_ninD rfl ?_ | refine Eng.cm_inTS ?_ | refine Eng.cm_inLS ?_ | refine Eng.cm_ninTS ?_ | refine Eng.cm_ninLS ?_ | refine Eng.ix_t0 ?_ | refine Eng.ix_t1 ?_ | refine Eng.ix_t2 ?_ | refine Eng.ix_t3 ?_ | refine Eng.ix_t4 ?_ | refine Eng.ix_l0 ?_ | refine Eng.ix_l1 ?_ | refine Eng.ix_l2 ?_ | refine Eng.ix_T (by with_reducible assumption) ?_ | refine Eng.ix_L (by with_reducible assumption) ?_ | refine Eng.in_of ?_ | refine Eng.tupn_of rfl ?_ | refine Eng.hd_of ?_ | refine Eng.dct_of ?_ | refine Eng.bo_mulI (by first | exact Eng.small_l (by first | decide | with_reducible assumption) | exact Eng.small_r (by first | decide | with_reducible assumption) | exact Eng.small_r (Eng.small_of' (by omega) (by omega)) | exact Eng.small_l (Eng.small_of' (by omega) (by omega))) ?_ | refine Eng.bo_fdiv (by first | decide | with_reducible assumption | exact Eng.nat31_of (by omega) (by omega)) ?_ | refine Eng.bo_mod (by first | decide | omega) ?_ | refine Eng.bo_addT (by first | with_reducible assumption | decide) ?_ | refine Eng.bo_addL (by first | with_reducible assumption | decide) ?_ | refine Eng.bo_addS (by first | with_reducible assumption | decide) ?_ | refine Eng.bo_of (by with_reducible assumption) ?_ | refine Eng.cm_of (by with_reducible assumption) ?_ | refine Eng.ix_of (by with_reducible assumption) ?_ | refine Eng.sl_of (by with_reducible assumption) ?_ | refine Eng.bl_of (by with_reducible assumption) ?_ | refine Eng.bl_divmod (by first | decide | with_reducible assumption | exact Eng.nat31_of (by omega) (by omega)) ?_ | refine Eng.fd_of (by with_reducible assumption) ?_ | refine Eng.me_of (by with_reducible assumption) ?_ | refine Eng.call_plain rfl rfl ?_ | refine Eng.call_well rfl (fun _ => rfl) ?_ | refine Eng.set_l0 ?_ | refine Eng.set_l1 ?_ | refine Eng.set_l2 ?_ | (apply Eng.stw_v; · (repeat (first | exact Eng.put_z rfl | exact Eng.put_z (by with_reducible assumption) | apply Eng.put_s))) | (apply Eng.stw_o; · (repeat (first | exact Eng.put_z rfl | exact Eng.put_z (by with_reducible assumption) | apply Eng.put_s))) | (apply Eng.stw_val rfl; · (repeat (first | exact Eng.put_z rfl | exact Eng.put_z (by with_reducible assumption) | apply Eng.put_s))) | (apply Eng.stw_own rfl; · (repeat (first | exact Eng.set_z | apply Eng.set_s)); · (repeat (first | exact Eng.put_z rfl | exact Eng.put_z (by with_reducible assumption) | apply Eng.put_s))) | refine Eng.stws_nil ?_ | (apply Eng.stws_cons; · (repeat (first | exact Eng.put_z rfl | exact Eng.put_z (by with_reducible assumption) | apply Eng.put_s))) | refine Eng.tgw_nil ?_ | (apply Eng.tgw_nm; · (repeat (first | exact Eng.put_z rfl | exact Eng.put_z (by with_reducible assumption) | apply Eng.put_s))) | refine Eng.tgw_sub ?_ | (apply Eng.wrw_own rfl; · (repeat (first | exact Eng.set_z | apply Eng.set_s))) | (apply Eng.wrw_lent rfl; · (repeat (first | exact Eng.set_z | apply Eng.set_s))) | refine Eng.mvw_v ?_ | refine Eng.mvw_o ?_ | refine Eng.mvw_val rfl ?_ | (apply Eng.mvw_own rfl; · (repeat (first | exact Eng.set_z | apply Eng.set_s))))
local macro_rules | `(tactic| array_mem_dec) => `(tactic| first | refine Eng.fd_of rfl ?_ | refine Eng.me_of rfl ?_ | refine Eng.wc_of (by with_reducible assumption) ?_ | refine Eng.sm_of rfl ?_ | refine Eng.sm_of (by with_reducible assumption) ?_ | refine Eng.tr_of rfl ?_ | refine Eng.tr_of (by with_reducible assumption) ?_ | refine Eng.bl_of rfl ?_ | refine Eng.sl_of rfl ?_ | refine Eng.bo_of rfl ?_ | refine Eng.cm_of rfl ?_ | refine Eng.ix_of rfl ?_ | refine Eng.outs_of rfl ?_ | refine Eng.ifb_t (by first | rfl | with_reducible assumption | (simp only [Bool.not_eq_true']; with_reducible assumption) | (simp only [decide_eq_true_eq, beq_iff_eq, Bool.not_eq_true', bne_iff_ne, decide_eq_false_iff_not, beq_eq_false_iff_ne, ne_eq]; omega) | decide) ?_ | refine Eng.ifb_f (by first | rfl | with_reducible assumption | (simp only [Bool.not_eq_false']; with_reducible assumption) | (simp only [decide_eq_false_iff_not, beq_eq_false_iff_ne, Bool.not_eq_false', ne_eq, beq_iff_eq, decide_eq_true_eq]; omega) | decide) ?_ | exact ⟨rfl, rfl⟩ | exact rfl | (refine Eng.ifb_s (fun hc => ?_) (fun hc => ?_) <;> (try simp only [decide_eq_true_eq, decide_eq_false_iff_not, beq_iff_eq, beq_eq_false_iff_ne, ne_eq, Bool.not_eq_true', Bool.not_eq_false', Int.not_lt, Int.not_le] at hc)))
namespace Law
open Eng PySem
/-! ### scores -/
/-- whom the start of a cue sends -/
def sndL (g : RG) (c : CU) : List Nat := if c.wh then List.range g.chs.length else ((g.chs.zipIdx 0).filter fun p => (lookM c.mv p.1).isSome).map (·.2)
def idxD (l : List Nat) : List (L2.Key × Val) := l.map fun (i : Nat) => (.inl (i : Int), .bl true)
def idxV (l : List Nat) : Val := .dct (idxD l)
theorem dget_idx (l : List Nat) (i : Nat) : (dget (idxD l) (.inl (i : Int))).isSome = decide (i ∈ l) := by
  unfold dget idxD
  rw [Option.isSome_map]
  induction l with
  | nil => rfl
  | cons a l ih =>
    rw [List.map_cons, List.find?_cons]
    by_cases h : a = i
    · subst h
      simp
    · have e : decide ((Sum.inl (a : Int) : L2.Key) = .inl (i : Int)) = false := by
        simp
        omega
      simp only [e]
      rw [ih]
      have h' : i ≠ a := fun z => h z.symm
      simp [h']
theorem idx_ne {α : Type} (xs : List α) : (xs.zipIdx 0).Pairwise fun a b => (Sum.inl (a.2 : Int) : L2.Key) ≠ .inl (b.2 : Int) := by
  rw [List.pairwise_iff_getElem]
  intro i j hi hj hij e
  simp at e
  omega
theorem rng_ne (n : Nat) : (List.range n).Pairwise fun (a b : Nat) => (Sum.inl (a : Int) : L2.Key) ≠ .inl (b : Int) := by
  rw [List.pairwise_iff_getElem]
  intro i j hi hj hij e
  simp at e
  omega
def evyV (g : RG) : Val := idxV (List.range g.chs.length)
def scF (g : RG) (cs : List CU) (bk : Int) : List (Str × Val) := [(Sl [99,117,101,115], clV g cs), (Sl [98,97,99,107], .int bk), (Sl [114,111,119,115], .tup (cs.map CU.v)), (Sl [99,104,97,110,110,101,108,115], g.nv), (Sl [109,101,97,110,115], meansV g cs), (Sl [112,108,97,99,101,115], .dct (placesD cs)), (Sl [101,118,101,114,121,98,111,100,121], evyV g)]
def scV (g : RG) (cs : List CU) (bk : Int) : Val := .ins k_Score (scF g cs bk ++ [(Sl [115,101,110,100,101,114,115], .lst (cs.map fun c => idxV (sndL g c)))])
section
variable (g : RG) (cs : List CU) (bk : Int)
theorem f_sc_rows : fldOf D (Sl [114,111,119,115]) (scV g cs bk) = some (.tup (cs.map CU.v)) := rfl
theorem f_sc_channels : fldOf D (Sl [99,104,97,110,110,101,108,115]) (scV g cs bk) = some g.nv := rfl
theorem f_sc_means : fldOf D (Sl [109,101,97,110,115]) (scV g cs bk) = some (meansV g cs) := rfl
theorem f_sc_places : fldOf D (Sl [112,108,97,99,101,115]) (scV g cs bk) = some (.dct (placesD cs)) := rfl
theorem f_sc_everybody : fldOf D (Sl [101,118,101,114,121,98,111,100,121]) (scV g cs bk) = some (evyV g) := rfl
theorem f_sc_senders : fldOf D (Sl [115,101,110,100,101,114,115]) (scV g cs bk) = some (.lst (cs.map fun c => idxV (sndL g c))) := rfl
theorem f_sc_back : fldOf D (Sl [98,97,99,107]) (scV g cs bk) = some (.int bk) := rfl
theorem m_sc_look : clsOf D (Sl [108, 111, 111, 107]) (scV g cs bk) = some i_Score_look := rfl
theorem m_sc_stages : clsOf D (Sl [115, 116, 97, 103, 101, 115]) (scV g cs bk) = some i_Score_stages := rfl
theorem m_sc_behind : clsOf D (Sl [98, 101, 104, 105, 110, 100]) (scV g cs bk) = some i_Score_behind := rfl
theorem m_sc_first : clsOf D (Sl [102, 105, 114, 115, 116]) (scV g cs bk) = some i_Score_first := rfl
theorem m_sc_moved : clsOf D (Sl [109, 111, 118, 101, 100]) (scV g cs bk) = some i_Score_moved := rfl
theorem m_sc_run_behind : clsOf D (Sl [114, 117, 110, 95, 98, 101, 104, 105, 110, 100]) (scV g cs bk) = some i_Score_run_behind := rfl
theorem m_sc_jumping : clsOf D (Sl [106, 117, 109, 112, 105, 110, 103]) (scV g cs bk) = some i_Score_jumping := rfl
theorem m_sc_passing : clsOf D (Sl [112, 97, 115, 115, 105, 110, 103]) (scV g cs bk) = some i_Score_passing := rfl
theorem m_sc_starting : clsOf D (Sl [115, 116, 97, 114, 116, 105, 110, 103]) (scV g cs bk) = some i_Score_starting := rfl
theorem m_sc_follow_of : clsOf D (Sl [102, 111, 108, 108, 111, 119, 95, 111, 102]) (scV g cs bk) = some i_Score_follow_of := rfl
end
theorem dget_true (mv : List (Str × Int)) (s : Str) : (dget (mv.map fun m => (.inr m.1, .bl true)) (.inr s)).isSome = (lookM mv s).isSome := by
  unfold dget lookM
  rw [Option.isSome_map, Option.isSome_map]
  induction mv with
  | nil => rfl
  | cons m mv ih =>
    rw [List.map_cons, List.find?_cons, List.find?_cons]
    have e : decide ((Sum.inr m.1 : L2.Key) = .inr s) = decide (m.1 = s) := by
      congr 1
      exact propext ⟨fun h => Sum.inr.inj h, fun h => by rw [h]⟩
    simp only [e]
    cases decide (m.1 = s) with
    | true => rfl
    | false => exact ih
theorem e_senders_of (k : Nat) (g : RG) (cs : List CU) (bk : Int) (c : CU) (hg : g.Ok) (h : c.Ok g) : ∃ b : Bool, Fk D (k+1) i_Score_senders_of [.lent (.ins k_Score (scF g cs bk)), .val c.v] = some (if b then .o (idxV (sndL g c)) else .v (idxV (sndL g c)), [.ins k_Score (scF g cs bk), c.v]) := by
  have f1 : fldOf D (Sl [101,118,101,114,121,98,111,100,121]) (.ins k_Score (scF g cs bk)) = some (evyV g) := rfl
  have f2 : fldOf D (Sl [99,104,97,110,110,101,108,115]) (.ins k_Score (scF g cs bk)) = some g.nv := rfl
  have ml := h.ml
  have l8 := hg.l8
  cases hw : c.wh with
  | true =>
    refine ⟨false, wc_eq ?_⟩
    refine wc_fn (F_Score_senders_of _ _) rfl (by simp only [startE, slotOf, List.map, List.length, List.replicate, List.cons_append, List.nil_append, List.length_cons, List.length_nil, Nat.reduceAdd, Nat.reduceSub]; rfl) ?_; show WB D _ B_Score_senders_of _ _ _ _ _; unfold B_Score_senders_of
    unfold CU.v
    rw [hw]
    (repeat' (first | array_get_dec | array_mem_dec))
    have e : sndL g c = List.range g.chs.length := by unfold sndL; rw [hw]; rfl
    rw [e]
    exact ⟨rfl, rfl⟩
  | false =>
    refine ⟨true, wc_eq ?_⟩
    refine wc_fn (F_Score_senders_of _ _) rfl (by simp only [startE, slotOf, List.map, List.length, List.replicate, List.cons_append, List.nil_append, List.length_cons, List.length_nil, Nat.reduceAdd, Nat.reduceSub]; rfl) ?_; show WB D _ B_Score_senders_of _ _ _ _ _; unfold B_Score_senders_of
    unfold CU.v
    rw [hw]
    (repeat' (first | array_get_dec | array_mem_dec))
    refine we_dcD c.mv mvV (fun _ => true) (fun m => .inr m.1) (fun _ => .bl true) ?_
    (repeat' (first | array_get_dec | array_mem_dec))
    refine ⟨rfl, cap_of (by omega), ⟨_, rfl, fun m hm => ?_⟩, ?_⟩
    · refine ⟨_, tg_two (by (repeat (first | exact put_z rfl | exact put_z (by with_reducible assumption) | apply put_s))) (by (repeat (first | exact put_z rfl | exact put_z (by with_reducible assumption) | apply put_s))), ?_⟩
      (repeat' (first | array_get_dec | array_mem_dec))
      refine ⟨rfl, ?_⟩
      (repeat' (first | array_get_dec | array_mem_dec))
      refine ⟨rfl, ?_⟩
      (repeat' (first | array_get_dec | array_mem_dec))
    · rw [filter_true, foldl_dput0 _ _ _ (mv_ne h)]
      (repeat' (first | array_get_dec | array_mem_dec))
      refine we_dcD (g.chs.zipIdx 0) (fun p => .tup [.int (p.2 : Int), .str p.1]) (fun p => (lookM c.mv p.1).isSome) (fun p => .inl (p.2 : Int)) (fun _ => .bl true) ?_
      (repeat' (first | array_get_dec | array_mem_dec))
      refine ⟨enumV_map _ _ _, cap_of (by simp; omega), ⟨_, rfl, fun p hp => ?_⟩, ?_⟩
      · refine ⟨_, tg_two (by (repeat (first | exact put_z rfl | exact put_z (by with_reducible assumption) | apply put_s))) (by (repeat (first | exact put_z rfl | exact put_z (by with_reducible assumption) | apply put_s))), ?_⟩
        (repeat' (first | array_get_dec | array_mem_dec))
        refine ⟨dget_true c.mv p.1, ?_⟩
        (repeat' (first | array_get_dec | array_mem_dec))
        all_goals (refine ⟨rfl, ?_⟩; (repeat' (first | array_get_dec | array_mem_dec)))
      · rw [foldl_dput0 _ _ _ ((idx_ne g.chs).filter _)]
        (repeat' (first | array_get_dec | array_mem_dec))
        have e : idxV (sndL g c) = .dct (((g.chs.zipIdx 0).filter fun p => (lookM c.mv p.1).isSome).map fun a => (.inl (a.2 : Int), .bl true)) := by
          have e0 : sndL g c = ((g.chs.zipIdx 0).filter fun p => (lookM c.mv p.1).isSome).map (·.2) := by unfold sndL; rw [hw]; rfl
          unfold idxV idxD
          rw [e0, List.map_map]
          rfl
        rw [e]
        exact ⟨rfl, rfl⟩
theorem e_Score_init (k : Nat) (g : RG) (cs : List CU) (bk : Int) (hg : g.Ok) (h : LOk g cs) : Fk D (k+2) i_Score___init__ [.lent (.ins k_Score []), .val (clV g cs), .val (.int bk)] = some (.v .non, [scV g cs bk, clV g cs, .int bk]) := by
  refine wc_eq ?_
  refine wc_fn (F_Score___init__ _ _) rfl (by simp only [startE, slotOf, List.map, List.length, List.replicate, List.cons_append, List.nil_append, List.length_cons, List.length_nil, Nat.reduceAdd, Nat.reduceSub]; rfl) ?_; show WB D _ B_Score___init__ _ _ _ _ _; unfold B_Score___init__
  have l20 := h.len
  have l8 := hg.l8
  (repeat' (first | array_get_dec | refine fd_of f_cl_rig g cs ?_ | refine me_of f_cl_rig g cs ?_ | refine fd_of f_cl_cues g cs ?_ | refine me_of f_cl_cues g cs ?_ | refine fd_of f_cl_means g cs ?_ | refine me_of f_cl_means g cs ?_ | refine fd_of f_cl_places g cs ?_ | refine me_of f_cl_places g cs ?_ | refine fd_of f_rig_channels g ?_ | refine me_of f_rig_channels g ?_ | array_mem_dec))
  refine we_dcD (List.range g.chs.length) (fun (i : Nat) => .int (i : Int)) (fun _ => true) (fun (i : Nat) => .inl (i : Int)) (fun _ => .bl true) ?_
  (repeat' (first | array_get_dec | refine fd_of f_rig_channels g ?_ | refine me_of f_rig_channels g ?_ | array_mem_dec))
  rw [List.length_map]
  refine ⟨inR_of (by omega) (by omega), range_map _, cap_of (by simp; omega), ⟨_, rfl, fun p hp => ?_⟩, ?_⟩
  · refine ⟨_, tg_one (by (repeat (first | exact put_z rfl | exact put_z (by with_reducible assumption) | apply put_s))), ?_⟩
    (repeat' (first | array_get_dec | array_mem_dec))
    refine ⟨rfl, ?_⟩
    (repeat' (first | array_get_dec | array_mem_dec))
    refine ⟨rfl, ?_⟩
    (repeat' (first | array_get_dec | array_mem_dec))
  rw [filter_true, foldl_dput0 _ _ _ (rng_ne _)]
  (repeat' (first | array_get_dec | array_mem_dec))
  refine we_lcD cs CU.v (fun _ => true) (fun c => idxV (sndL g c)) ?_
  (repeat' (first | array_get_dec | array_mem_dec))
  refine ⟨rfl, cap_of (by omega), ⟨_, rfl, fun c hc => ?_⟩, ?_⟩
  · obtain ⟨b, q⟩ := e_senders_of k g cs bk c hg (h.ok c hc)
    have m : clsOf D (Sl [115, 101, 110, 100, 101, 114, 115, 95, 111, 102]) (.ins k_Score (scF g cs bk)) = some i_Score_senders_of := rfl
    refine ⟨_, tg_one (by (repeat (first | exact put_z rfl | exact put_z (by with_reducible assumption) | apply put_s))), ?_⟩
    (repeat' (first | array_get_dec | array_mem_dec))
    refine ⟨rfl, ?_⟩
    (repeat' (first | array_get_dec | array_mem_dec))
    refine wc_of q ?_
    cases b <;> (repeat' (first | array_get_dec | array_mem_dec))
  · rw [filter_true]
    (repeat' (first | array_get_dec | array_mem_dec))
end Law
end
section
set_option Elab.async false
set_option linter.all false
set_option maxRecDepth 100000
set_option maxHeartbeats 4000000
set_option hygiene false
local macro_rules | `(tactic| array_get_dec) => `(tactic| first | refine Eng.wb_cons ?_ | refine Eng.ws_asg ?_ | refine Eng.ws_ret ?_ | refine Eng.ws_ife ?_ | refine Eng.ws_asgT ?_ | refine Eng.ws_par ?_ | refine Eng.ws_exp ?_ | refine Eng.wb_nil ?_ | refine Eng.ws_pass ?_ | refine Eng.ws_retN ?_ | refine Eng.ws_subS ?_ | refine Eng.ws_fldS ?_ | refine Eng.ws_app rfl ?_ | refine Eng.ws_brk ?_ | refine Eng.ws_cont ?_ | refine Eng.wv_of ?_ | refine Eng.wn_of ?_ | refine Eng.wt_of ?_ | refine Eng.we_var rfl ?_ | refine Eng.lk_of rfl ?_ | refine Eng.we_lit ?_ | refine Eng.fzw_v ?_ | refine Eng.fzw_val rfl ?_ | refine Eng.fzw_o ?_ | (apply Eng.fzw_own rfl; · (repeat (first | exact Eng.set_z | apply Eng.set_s))) | refine Eng.wf_cons ?_ | refine Eng.wf_nil ?_ | refine Eng.wa_cons ?_ | refine Eng.wa_nil ?_ | refine Eng.we_tup ?_ | refine Eng.we_ix ?_ | refine Eng.we_bin ?_ | refine Eng.we_cmp ?_ | refine Eng.we_fld ?_ | refine Eng.we_call ?_ | refine Eng.we_meth ?_ | refine Eng.we_blt ?_ | refine Eng.we_lst ?_ | refine Eng.we_ife ?_ | refine Eng.we_and2 ?_ | refine Eng.we_or2 ?_ | refine Eng.we_not ?_ | refine Eng.we_neg ?_ | refine Eng.we_isB ?_ | refine Eng.we_isC ?_ | refine Eng.we_chn ?_ | refine Eng.we_slc ?_ | refine Eng.we_dget1 ?_ | refine Eng.we_dget2 ?_ | refine Eng.isd_of rfl ?_ | refine Eng.we_dsp ?_ | refine Eng.wd_cons ?_ | refine Eng.wd_nil ?_ | refine Eng.wo_no ?_ | refine Eng.wo_so ?_ | refine Eng.wts_nil ?_ | refine Eng.wts_one ?_ | refine Eng.wi_seq ?_ | refine Eng.wi_rng1 ?_ | refine Eng.wi_rng2 ?_ | refine Eng.wi_enum ?_ | refine Eng.wi_zip ?_ | refine Eng.bo_addI ?_ | refine Eng.bo_subI ?_ | refine Eng.cm_ltI ?_ | refine Eng.cm_leI ?_ | refine Eng.cm_gtI ?_ | refine Eng.cm_geI ?_ | refine Eng.cm_eqI ?_ | refine Eng.cm_neI ?_ | refine Eng.cm_eqS ?_ | refine Eng.cm_neS ?_ | refine Eng.cm_isN ?_ | refine Eng.cm_isnotN ?_ | refine Eng.cm_inD rfl ?_ | refine Eng.cm_ninD rfl ?_ | refine Eng.cm_inTS ?_ | refine Eng.cm_inLS ?_ | refine Eng.cm_ninTS ?_ | refine Eng.cm_ninLS ?_ | refine Eng.ix_t0 ?_ | refine Eng.ix_t1 ?_ | refine Eng.ix_t2 ?_ | refine Eng.ix_t3 ?_ | refine Eng.ix_t4 ?_ | refine Eng.ix_l0 ?_ | refine Eng.ix_l1 ?_ | refine Eng.ix_l2 ?_ | refine Eng.ix_T (by with_reducible assumption) ?_ | refine Eng.ix_L (by with_reducible assumption) ?_ | refine Eng.in_of ?_ | refine Eng.tupn_of rfl ?_ | refine Eng.hd_of ?_ | refine Eng.dct_of ?_ | refine Eng.bo_mulI (by first | exact Eng.small_l (by first | decide | with_reducible assumption) | exact Eng.small_r (by first | decide | with_reducible assumption) | exact Eng.small_r (Eng.small_of' (by omega) (by omega)) | exact Eng.small_l (Eng.small_of' (by omega) (by omega))) ?_ | refine Eng.bo_fdiv (by first | decide | with_reducible assumption | exact Eng.nat31_of (by omega) (by omega)) ?_ | refine Eng.bo_mod (by first | decide | omega) ?_ | refine Eng.bo_addT (by first | with_reducible assumption | decide) ?_ | refine Eng.bo_addL (by first | with_reducible assumption | decide) ?_ | refine Eng.bo_addS (by first | with_reducible assumption | decide) ?_ | refine Eng.bo_of (by with_reducible assumption) ?_ | refine Eng.cm_of (by with_reducible assumption) ?_ | refine Eng.ix_of (by with_reducible assumption) ?_ | refine Eng.sl_of (by with_reducible assumption) ?_ | refine Eng.bl_of (by with_reducible assumption) ?_ | refine Eng.bl_divmod (by first | decide | with_reducible assumption | exact Eng.nat31_of (by omega) (by omega)) ?_ | refine Eng.fd_of (by with_reducible assumption) ?_ | refine Eng.me_of (by with_reducible assumption) ?_ | refine Eng.call_plain rfl rfl ?_ | refine Eng.call_well rfl (fun _ => rfl) ?_ | refine Eng.set_l0 ?_ | refine Eng.set_l1 ?_ | refine Eng.set_l2 ?_ | (apply Eng.stw_v; · (repeat (first | exact Eng.put_z rfl | exact Eng.put_z (by with_reducible assumption) | apply Eng.put_s))) | (apply Eng.stw_o; · (repeat (first | exact Eng.put_z rfl | exact Eng.put_z (by with_reducible assumption) | apply Eng.put_s))) | (apply Eng.stw_val rfl; · (repeat (first | exact Eng.put_z rfl | exact Eng.put_z (by with_reducible assumption) | apply Eng.put_s))) | (apply Eng.stw_own rfl; · (repeat (first | exact Eng.set_z | apply Eng.set_s)); · (repeat (first | exact Eng.put_z rfl | exact Eng.put_z (by with_reducible assumption) | apply Eng.put_s))) | refine Eng.stws_nil ?_ | (apply Eng.stws_cons; · (repeat (first | exact Eng.put_z rfl | exact Eng.put_z (by with_reducible assumption) | apply Eng.put_s))) | refine Eng.tgw_nil ?_ | (apply Eng.tgw_nm; · (repeat (first | exact Eng.put_z rfl | exact Eng.put_z (by with_reducible assumption) | apply Eng.put_s))) | refine Eng.tgw_sub ?_ | (apply Eng.wrw_own rfl; · (repeat (first | exact Eng.set_z | apply Eng.set_s))) | (apply Eng.wrw_lent rfl; · (repeat (first | exact Eng.set_z | apply Eng.set_s))) | refine Eng.mvw_v ?_ | refine Eng.mvw_o ?_ | refine Eng.mvw_val rfl ?_ | (apply Eng.mvw_own rfl; · (repeat (first | exact Eng.set_z | apply Eng.set_s))))
local macro_rules | `(tactic| array_mem_dec) => `(tactic| first | refine Eng.fd_of rfl ?_ | refine Eng.me_of rfl ?_ | refine Eng.wc_of (by with_reducible assumption) ?_ | refine Eng.sm_of rfl ?_ | refine Eng.sm_of (by with_reducible assumption) ?_ | refine Eng.tr_of rfl ?_ | refine Eng.tr_of (by with_reducible assumption) ?_ | refine Eng.bl_of rfl ?_ | refine Eng.sl_of rfl ?_ | refine Eng.bo_of rfl ?_ | refine Eng.cm_of rfl ?_ | refine Eng.ix_of rfl ?_ | refine Eng.outs_of rfl ?_ | refine Eng.ifb_t (by first | rfl | with_reducible assumption | (simp only [Bool.not_eq_true']; with_reducible assumption) | (simp only [decide_eq_true_eq, beq_iff_eq, Bool.not_eq_true', bne_iff_ne, decide_eq_false_iff_not, beq_eq_false_iff_ne, ne_eq]; omega) | decide) ?_ | refine Eng.ifb_f (by first | rfl | with_reducible assumption | (simp only [Bool.not_eq_false']; with_reducible assumption) | (simp only [decide_eq_false_iff_not, beq_eq_false_iff_ne, Bool.not_eq_false', ne_eq, beq_iff_eq, decide_eq_true_eq]; omega) | decide) ?_ | exact ⟨rfl, rfl⟩ | exact rfl | (refine Eng.ifb_s (fun hc => ?_) (fun hc => ?_) <;> (try simp only [decide_eq_true_eq, decide_eq_false_iff_not, beq_iff_eq, beq_eq_false_iff_ne, ne_eq, Bool.not_eq_true', Bool.not_eq_false', Int.not_lt, Int.not_le] at hc)))
namespace Law
open Eng PySem
/-! ### runs -/
structure Rn where
  x : Int
  e : Int
  a : Int
  l : Int
def Rn.v (r : Rn) : Val := .tup [.int r.x, .int r.e, .int r.a, .int r.l]
structure Rn.Ok (r : Rn) : Prop where
  x0 : 0 ≤ r.x
  x9 : r.x ≤ 9
  e0 : 0 ≤ r.e
  e9 : r.e ≤ 9
  a0 : 0 ≤ r.a
  l5 : r.l ≤ 5
  c : r.a < r.l ∨ (r.a = 0 ∧ r.l = 0 ∧ r.x = r.e)
def levelOf (b e a l : Int) : Int := if a < l then b + (e - b) * a / l else e
def levR (r : Rn) : Int := levelOf r.x r.e r.a r.l
def restR (i : Int) : Rn := ⟨i, i, 0, 0⟩
def tickR (r : Rn) : Rn := if r.l ≤ r.a then r else if r.a + 1 < r.l then ⟨r.x, r.e, r.a + 1, r.l⟩ else restR r.e
def sentR (r : Rn) (lev long : Int) : Rn := if r.e = lev then r else if long = 0 ∨ levR r = lev then restR lev else ⟨levR r, lev, 0, long⟩
theorem levelOf_bounds {x e a l m : Int} (hx0 : 0 ≤ x) (hx : x ≤ m) (he0 : 0 ≤ e) (he : e ≤ m) (ha : 0 ≤ a) : 0 ≤ levelOf x e a l ∧ levelOf x e a l ≤ m := by
  unfold levelOf
  by_cases h : a < l
  · rw [if_pos h]
    have hl : 0 < l := by omega
    constructor
    · have h1 : -x ≤ (e - x) * a / l := by
        rw [Int.le_ediv_iff_mul_le hl]
        by_cases hs : 0 ≤ e - x
        · have h2 : 0 ≤ (e - x) * a := Int.mul_nonneg hs ha
          have h3 : -x * l ≤ 0 := by
            rw [Int.neg_mul]
            have := Int.mul_nonneg hx0 (Int.le_of_lt hl)
            omega
          omega
        · have h2 : (e - x) * l ≤ (e - x) * a := Int.mul_le_mul_of_nonpos_left (by omega) (by omega)
          have h3 : -x * l ≤ (e - x) * l := Int.mul_le_mul_of_nonneg_right (by omega) (by omega)
          omega
      omega
    · have h1 : (e - x) * a / l < m - x + 1 := by
        rw [Int.ediv_lt_iff_lt_mul hl]
        have h3 : (m - x + 1) * l = (m - x) * l + l := by rw [Int.add_mul, Int.one_mul]
        by_cases hs : 0 ≤ e - x
        · have h2 : (e - x) * a ≤ (e - x) * l := Int.mul_le_mul_of_nonneg_left (by omega) hs
          have h4 : (e - x) * l ≤ (m - x) * l := Int.mul_le_mul_of_nonneg_right (by omega) (by omega)
          omega
        · have h2 : (e - x) * a ≤ 0 := by
            have := Int.mul_nonneg (show 0 ≤ -(e - x) by omega) ha
            rw [Int.neg_mul] at this
            omega
          have h4 : 0 ≤ (m - x) * l := Int.mul_nonneg (by omega) (by omega)
          omega
      omega
  · rw [if_neg h]; exact ⟨he0, he⟩
theorem levR_bounds {r : Rn} (h : r.Ok) : 0 ≤ levR r ∧ levR r ≤ 9 := levelOf_bounds h.x0 h.x9 h.e0 h.e9 h.a0
theorem restR_ok {i : Int} (h0 : 0 ≤ i) (h9 : i ≤ 9) : (restR i).Ok := ⟨h0, h9, h0, h9, by show (0 : Int) ≤ 0; decide, by show (0 : Int) ≤ 5; decide, .inr ⟨rfl, rfl, rfl⟩⟩
theorem tickR_ok {r : Rn} (h : r.Ok) : (tickR r).Ok := by
  unfold tickR
  split
  · exact h
  · split
    · exact ⟨h.x0, h.x9, h.e0, h.e9, by have := h.a0; show 0 ≤ r.a + 1; omega, h.l5, .inl (by assumption)⟩
    · exact restR_ok h.e0 h.e9
theorem sentR_ok {r : Rn} (h : r.Ok) {lev long : Int} (h0 : 0 ≤ lev) (h9 : lev ≤ 9) (l0 : 0 ≤ long) (l5 : long ≤ 5) : (sentR r lev long).Ok := by
  have b := levR_bounds h
  unfold sentR
  split
  · exact h
  · split
    · exact restR_ok h0 h9
    · rename_i hn
      refine ⟨b.1, b.2, h0, h9, by show (0 : Int) ≤ 0; decide, l5, .inl ?_⟩
      show 0 < long
      by_cases hz : long = 0
      · exact absurd (.inl hz) hn
      · omega
theorem e_resting (k : Nat) (i : Int) : Fk D (k+1) i_resting [.val (.int i)] = some (.v (restR i).v, [.int i]) := by
  refine wc_eq ?_
  refine wc_fn (F_resting _ _) rfl (by simp only [startE, slotOf, List.map, List.length, List.replicate, List.cons_append, List.nil_append, List.length_cons, List.length_nil, Nat.reduceAdd, Nat.reduceSub]; rfl) ?_; show WB D _ B_resting _ _ _ _ _; unfold B_resting
  (repeat' (first | array_get_dec | array_mem_dec))
theorem e_level_of (k : Nat) (r : Rn) (h : r.Ok) : Fk D (k+1) i_level_of [.val r.v] = some (.v (.int (levR r)), [r.v]) := by
  refine wc_eq ?_
  refine wc_fn (F_level_of _ _) rfl (by simp only [startE, slotOf, List.map, List.length, List.replicate, List.cons_append, List.nil_append, List.length_cons, List.length_nil, Nat.reduceAdd, Nat.reduceSub]; rfl) ?_; show WB D _ B_level_of _ _ _ _ _; unfold B_level_of
  have a0 := h.a0
  have l5 := h.l5
  have hc := h.c
  unfold Rn.v
  (repeat' (first | array_get_dec | array_mem_dec))
  · unfold levR levelOf
    rw [if_pos (by assumption)]
    exact ⟨rfl, rfl⟩
  · unfold levR levelOf
    rw [if_neg (by omega)]
    exact ⟨rfl, rfl⟩
theorem e_ticked (k : Nat) (r : Rn) : Fk D (k+2) i_ticked [.val r.v] = some (.v (tickR r).v, [r.v]) := by
  refine wc_eq ?_
  refine wc_fn (F_ticked _ _) rfl (by simp only [startE, slotOf, List.map, List.length, List.replicate, List.cons_append, List.nil_append, List.length_cons, List.length_nil, Nat.reduceAdd, Nat.reduceSub]; rfl) ?_; show WB D _ B_ticked _ _ _ _ _; unfold B_ticked
  unfold Rn.v
  have hr := e_resting k r.e
  unfold Rn.v at hr
  (repeat' (first | array_get_dec | array_mem_dec))
  · unfold tickR
    rw [if_pos (by assumption)]
    exact ⟨rfl, rfl⟩
  · unfold tickR
    rw [if_neg (by omega), if_pos (by assumption)]
    exact ⟨rfl, rfl⟩
  · unfold tickR
    rw [if_neg (by omega), if_neg (by omega)]
    exact ⟨rfl, rfl⟩
theorem e_sent (k : Nat) (r : Rn) (lev long : Int) (h : r.Ok) : Fk D (k+2) i_sent [.val r.v, .val (.int lev), .val (.int long)] = some (.v (sentR r lev long).v, [r.v, .int lev, .int long]) := by
  refine wc_eq ?_
  refine wc_fn (F_sent _ _) rfl (by simp only [startE, slotOf, List.map, List.length, List.replicate, List.cons_append, List.nil_append, List.length_cons, List.length_nil, Nat.reduceAdd, Nat.reduceSub]; rfl) ?_; show WB D _ B_sent _ _ _ _ _; unfold B_sent
  have hq := e_level_of k r h
  have hr := e_resting k lev
  unfold Rn.v at hq ⊢
  (repeat' (first | array_get_dec | array_mem_dec))
  all_goals (unfold sentR)
  · rw [if_pos (by assumption)]; exact ⟨rfl, rfl⟩
  · rw [if_neg (by assumption), if_pos (.inl (by assumption))]; exact ⟨rfl, rfl⟩
  · rw [if_neg (by assumption), if_pos (.inr (by assumption))]; exact ⟨rfl, rfl⟩
  · rw [if_neg (by assumption), if_neg (by rintro (z | z) <;> contradiction)]; exact ⟨rfl, rfl⟩
end Law
end
section
set_option Elab.async false
set_option linter.all false
set_option maxRecDepth 100000
set_option maxHeartbeats 4000000
set_option hygiene false
local macro_rules | `(tactic| array_get_dec) => `(tactic| first | refine Eng.wb_cons ?_ | refine Eng.ws_asg ?_ | refine Eng.ws_ret ?_ | refine Eng.ws_ife ?_ | refine Eng.ws_asgT ?_ | refine Eng.ws_par ?_ | refine Eng.ws_exp ?_ | refine Eng.wb_nil ?_ | refine Eng.ws_pass ?_ | refine Eng.ws_retN ?_ | refine Eng.ws_subS ?_ | refine Eng.ws_fldS ?_ | refine Eng.ws_app rfl ?_ | refine Eng.ws_brk ?_ | refine Eng.ws_cont ?_ | refine Eng.wv_of ?_ | refine Eng.wn_of ?_ | refine Eng.wt_of ?_ | refine Eng.we_var rfl ?_ | refine Eng.lk_of rfl ?_ | refine Eng.we_lit ?_ | refine Eng.fzw_v ?_ | refine Eng.fzw_val rfl ?_ | refine Eng.fzw_o ?_ | (apply Eng.fzw_own rfl; · (repeat (first | exact Eng.set_z | apply Eng.set_s))) | refine Eng.wf_cons ?_ | refine Eng.wf_nil ?_ | refine Eng.wa_cons ?_ | refine Eng.wa_nil ?_ | refine Eng.we_tup ?_ | refine Eng.we_ix ?_ | refine Eng.we_bin ?_ | refine Eng.we_cmp ?_ | refine Eng.we_fld ?_ | refine Eng.we_call ?_ | refine Eng.we_meth ?_ | refine Eng.we_blt ?_ | refine Eng.we_lst ?_ | refine Eng.we_ife ?_ | refine Eng.we_and2 ?_ | refine Eng.we_or2 ?_ | refine Eng.we_not ?_ | refine Eng.we_neg ?_ | refine Eng.we_isB ?_ | refine Eng.we_isC ?_ | refine Eng.we_chn ?_ | refine Eng.we_slc ?_ | refine Eng.we_dget1 ?_ | refine Eng.we_dget2 ?_ | refine Eng.isd_of rfl ?_ | refine Eng.we_dsp ?_ | refine Eng.wd_cons ?_ | refine Eng.wd_nil ?_ | refine Eng.wo_no ?_ | refine Eng.wo_so ?_ | refine Eng.wts_nil ?_ | refine Eng.wts_one ?_ | refine Eng.wi_seq ?_ | refine Eng.wi_rng1 ?_ | refine Eng.wi_rng2 ?_ | refine Eng.wi_enum ?_ | refine Eng.wi_zip ?_ | refine Eng.bo_addI ?_ | refine Eng.bo_subI ?_ | refine Eng.cm_ltI ?_ | refine Eng.cm_leI ?_ | refine Eng.cm_gtI ?_ | refine Eng.cm_geI ?_ | refine Eng.cm_eqI ?_ | refine Eng.cm_neI ?_ | refine Eng.cm_eqS ?_ | refine Eng.cm_neS ?_ | refine Eng.cm_isN ?_ | refine Eng.cm_isnotN ?_ | refine Eng.cm_inD rfl ?_ | refine Eng.cm_ninD rfl ?_ | refine Eng.cm_inTS ?_ | refine Eng.cm_inLS ?_ | refine Eng.cm_ninTS ?_ | refine Eng.cm_ninLS ?_ | refine Eng.ix_t0 ?_ | refine Eng.ix_t1 ?_ | refine Eng.ix_t2 ?_ | refine Eng.ix_t3 ?_ | refine Eng.ix_t4 ?_ | refine Eng.ix_l0 ?_ | refine Eng.ix_l1 ?_ | refine Eng.ix_l2 ?_ | refine Eng.ix_T (by with_reducible assumption) ?_ | refine Eng.ix_L (by with_reducible assumption) ?_ | refine Eng.in_of ?_ | refine Eng.tupn_of rfl ?_ | refine Eng.hd_of ?_ | refine Eng.dct_of ?_ | refine Eng.bo_mulI (by first | exact Eng.small_l (by first | decide | with_reducible assumption) | exact Eng.small_r (by first | decide | with_reducible assumption) | exact Eng.small_r (Eng.small_of' (by omega) (by omega)) | exact Eng.small_l (Eng.small_of' (by omega) (by omega))) ?_ | refine Eng.bo_fdiv (by first | decide | with_reducible assumption | exact Eng.nat31_of (by omega) (by omega)) ?_ | refine Eng.bo_mod (by first | decide | omega) ?_ | refine Eng.bo_addT (by first | with_reducible assumption | decide) ?_ | refine Eng.bo_addL (by first | with_reducible assumption | decide) ?_ | refine Eng.bo_addS (by first | with_reducible assumption | decide) ?_ | refine Eng.bo_of (by with_reducible assumption) ?_ | refine Eng.cm_of (by with_reducible assumption) ?_ | refine Eng.ix_of (by with_reducible assumption) ?_ | refine Eng.sl_of (by with_reducible assumption) ?_ | refine Eng.bl_of (by with_reducible assumption) ?_ | refine Eng.bl_divmod (by first | decide | with_reducible assumption | exact Eng.nat31_of (by omega) (by omega)) ?_ | refine Eng.fd_of (by with_reducible assumption) ?_ | refine Eng.me_of (by with_reducible assumption) ?_ | refine Eng.call_plain rfl rfl ?_ | refine Eng.call_well rfl (fun _ => rfl) ?_ | refine Eng.set_l0 ?_ | refine Eng.set_l1 ?_ | refine Eng.set_l2 ?_ | (apply Eng.stw_v; · (repeat (first | exact Eng.put_z rfl | exact Eng.put_z (by with_reducible assumption) | apply Eng.put_s))) | (apply Eng.stw_o; · (repeat (first | exact Eng.put_z rfl | exact Eng.put_z (by with_reducible assumption) | apply Eng.put_s))) | (apply Eng.stw_val rfl; · (repeat (first | exact Eng.put_z rfl | exact Eng.put_z (by with_reducible assumption) | apply Eng.put_s))) | (apply Eng.stw_own rfl; · (repeat (first | exact Eng.set_z | apply Eng.set_s)); · (repeat (first | exact Eng.put_z rfl | exact Eng.put_z (by with_reducible assumption) | apply Eng.put_s))) | refine Eng.stws_nil ?_ | (apply Eng.stws_cons; · (repeat (first | exact Eng.put_z rfl | exact Eng.put_z (by with_reducible assumption) | apply Eng.put_s))) | refine Eng.tgw_nil ?_ | (apply Eng.tgw_nm; · (repeat (first | exact Eng.put_z rfl | exact Eng.put_z (by with_reducible assumption) | apply Eng.put_s))) | refine Eng.tgw_sub ?_ | (apply Eng.wrw_own rfl; · (repeat (first | exact Eng.set_z | apply Eng.set_s))) | (apply Eng.wrw_lent rfl; · (repeat (first | exact Eng.set_z | apply Eng.set_s))) | refine Eng.mvw_v ?_ | refine Eng.mvw_o ?_ | refine Eng.mvw_val rfl ?_ | (apply Eng.mvw_own rfl; · (repeat (first | exact Eng.set_z | apply Eng.set_s))))
local macro_rules | `(tactic| array_mem_dec) => `(tactic| first | refine Eng.fd_of rfl ?_ | refine Eng.me_of rfl ?_ | refine Eng.wc_of (by with_reducible assumption) ?_ | refine Eng.sm_of rfl ?_ | refine Eng.sm_of (by with_reducible assumption) ?_ | refine Eng.tr_of rfl ?_ | refine Eng.tr_of (by with_reducible assumption) ?_ | refine Eng.bl_of rfl ?_ | refine Eng.sl_of rfl ?_ | refine Eng.bo_of rfl ?_ | refine Eng.cm_of rfl ?_ | refine Eng.ix_of rfl ?_ | refine Eng.outs_of rfl ?_ | refine Eng.ifb_t (by first | rfl | with_reducible assumption | (simp only [Bool.not_eq_true']; with_reducible assumption) | (simp only [decide_eq_true_eq, beq_iff_eq, Bool.not_eq_true', bne_iff_ne, decide_eq_false_iff_not, beq_eq_false_iff_ne, ne_eq]; omega) | decide) ?_ | refine Eng.ifb_f (by first | rfl | with_reducible assumption | (simp only [Bool.not_eq_false']; with_reducible assumption) | (simp only [decide_eq_false_iff_not, beq_eq_false_iff_ne, Bool.not_eq_false', ne_eq, beq_iff_eq, decide_eq_true_eq]; omega) | decide) ?_ | exact ⟨rfl, rfl⟩ | exact rfl | (refine Eng.ifb_s (fun hc => ?_) (fun hc => ?_) <;> (try simp only [decide_eq_true_eq, decide_eq_false_iff_not, beq_iff_eq, beq_eq_false_iff_ne, ne_eq, Bool.not_eq_true', Bool.not_eq_false', Int.not_lt, Int.not_le] at hc)))
namespace Law
open Eng PySem
/-! ### what acts make of places -/
def followOf (cs : List CU) (p : Nat) : Int := match (cs[p]?).bind (·.fol) with
  | none => -1
  | some f => if p + 1 = cs.length then -1 else f
def fadeOf (cs : List CU) (p : Nat) : Int := ((cs[p]?).map (·.fade)).getD 0
def sndOf (g : RG) (cs : List CU) (p : Nat) : List Nat := ((cs[p]?).map (sndL g)).getD []
def placeOf (cs : List CU) (n : Int) : Option Nat := ((cs.zipIdx 0).find? fun p => decide (p.1.num = n)).map (·.2)
theorem dget_places (cs : List CU) (n : Int) : dget (placesD cs) (.inl n) = (placeOf cs n).map fun (p : Nat) => Val.int (p : Int) := by
  unfold dget placesD placeOf
  induction cs.zipIdx 0 with
  | nil => rfl
  | cons m l ih =>
    rw [List.map_cons, List.find?_cons, List.find?_cons]
    have e : decide ((Sum.inl m.1.num : L2.Key) = .inl n) = decide (m.1.num = n) := by
      congr 1
      exact propext ⟨fun h => Sum.inl.inj h, fun h => by rw [h]⟩
    simp only [e]
    cases decide (m.1.num = n) with
    | true => rfl
    | false => exact ih
theorem placeOf_some {cs : List CU} {n : Int} {p : Nat} (h : placeOf cs n = some p) : ∃ c, cs[p]? = some c ∧ c.num = n := by
  unfold placeOf at h
  cases e : (cs.zipIdx 0).find? fun p => decide (p.1.num = n) with
  | none => rw [e] at h; cases h
  | some q =>
    rw [e] at h
    cases h
    have h1 := List.find?_some e
    have h2 := List.mem_of_find?_eq_some e
    obtain ⟨i, hi, e2⟩ := List.getElem_of_mem h2
    have e3 : (cs.zipIdx 0)[i]? = some q := by rw [List.getElem?_eq_getElem hi, e2]
    obtain ⟨e4, e5⟩ := getElem?_zipIdx e3
    subst e5
    exact ⟨q.1, e4, of_decide_eq_true h1⟩
theorem placeOf_none {cs : List CU} {n : Int} (h : placeOf cs n = none) : ∀ c ∈ cs, c.num ≠ n := by
  unfold placeOf at h
  intro c hc e
  obtain ⟨i, hi, rfl⟩ := List.getElem_of_mem hc
  have h1 : (cs.zipIdx 0).find? (fun p => decide (p.1.num = n)) = none := by
    cases e2 : (cs.zipIdx 0).find? fun p => decide (p.1.num = n) with
    | none => rfl
    | some q => rw [e2] at h; cases h
  rw [List.find?_eq_none] at h1
  have := h1 (cs[i], i) (by rw [List.mem_iff_getElem?]; exact ⟨i, by simp [hi]⟩)
  simp [e] at this
inductive Snd where
  | no | to (w : List Nat) (long : Int)
def Snd.v : Snd → Val
  | .no => .tup [.tup [], .int 0]
  | .to w l => .tup [idxV w, .int l]
inductive AC where
  | go | bck | wait | jump (n : Int) | hold (c : Str) (l : Int) | fre (c : Str)
  deriving DecidableEq
def AC.v : AC → Val
  | .go => .tup [.str (Sl [103, 111])]
  | .bck => .tup [.str (Sl [98, 97, 99, 107])]
  | .wait => .tup [.str (Sl [119, 97, 105, 116])]
  | .jump n => .tup [.str (Sl [106, 117, 109, 112]), .int n]
  | .hold c l => .tup [.str (Sl [104, 111, 108, 100]), .str c, .int l]
  | .fre c => .tup [.str (Sl [102, 114, 101, 101]), .str c]
structure Mv where
  p : Int
  d : Int
  s : Snd
def Mv.v (m : Mv) : Val := .tup [.int m.p, .int m.d, m.s.v]
def startS (g : RG) (cs : List CU) (p : Nat) : Mv := ⟨p, followOf cs p, .to (sndOf g cs p) (fadeOf cs p)⟩
def jumpS (g : RG) (cs : List CU) (p d n : Int) : Mv := match placeOf cs n with
  | none => ⟨p, d, .no⟩
  | some q => ⟨q, followOf cs q, .to (List.range g.chs.length) (fadeOf cs q)⟩
def passS (g : RG) (cs : List CU) (p d : Int) : Mv := if d = 1 then startS g cs (p + 1).toNat else ⟨p, if 1 < d then d - 1 else d, .no⟩
def moveS (g : RG) (cs : List CU) (bk p d : Int) : AC → Mv
  | .wait => passS g cs p d
  | .jump n => jumpS g cs p d n
  | .go => if p + 1 < cs.length then startS g cs (p + 1).toNat else ⟨p, d, .no⟩
  | .bck => if 0 ≤ p then ⟨p - 1, -1, .to (List.range g.chs.length) bk⟩ else ⟨p, d, .no⟩
  | _ => ⟨p, d, .no⟩
section
variable (k : Nat) (g : RG) (cs : List CU) (bk : Int)
theorem atI_cu {p : Nat} {c : CU} (h : cs[p]? = some c) : L2.atI (cs.map CU.v) (p : Int) = some (.tup [.int c.num, .tup (c.mv.map mvV), .int c.fade, folV c.fol, .bl c.wh]) := atI_map h
theorem atI_cs {p : Nat} {c : CU} (h : cs[p]? = some c) : L2.atI (cs.map CU.v) (p : Int) = some c.v := atI_map h
theorem e_follow_of (p : Nat) (hp : p < cs.length) : Fk D (k+1) i_Score_follow_of [.val (scV g cs bk), .val (.int (p : Int))] = some (.v (.int (followOf cs p)), [scV g cs bk, .int (p : Int)]) := by
  have e := List.getElem?_eq_getElem hp
  have hat := atI_cu cs e
  have ef : followOf cs p = match cs[p].fol with | none => -1 | some f => if p + 1 = cs.length then -1 else f := by
    unfold followOf
    rw [e]
    rfl
  rw [ef]
  refine wc_eq ?_
  refine wc_fn (F_Score_follow_of _ _) rfl (by simp only [startE, slotOf, List.map, List.length, List.replicate, List.cons_append, List.nil_append, List.length_cons, List.length_nil, Nat.reduceAdd, Nat.reduceSub]; rfl) ?_; show WB D _ B_Score_follow_of _ _ _ _ _; unfold B_Score_follow_of
  cases hfo : cs[p].fol with
  | none =>
    rw [hfo] at hat
    have hat : L2.atI (cs.map CU.v) (p : Int) = some (.tup [.int cs[p].num, .tup (cs[p].mv.map mvV), .int cs[p].fade, .non, .bl cs[p].wh]) := hat
    (repeat' (first | array_get_dec | refine fd_of f_sc_rows g cs bk ?_ | refine me_of f_sc_rows g cs bk ?_ | array_mem_dec))
  | some f =>
    rw [hfo] at hat
    have hat : L2.atI (cs.map CU.v) (p : Int) = some (.tup [.int cs[p].num, .tup (cs[p].mv.map mvV), .int cs[p].fade, .int f, .bl cs[p].wh]) := hat
    have hl : (cs.map CU.v).length = cs.length := List.length_map ..
    (repeat' (first | array_get_dec | refine fd_of f_sc_rows g cs bk ?_ | refine me_of f_sc_rows g cs bk ?_ | array_mem_dec))
    · dsimp only; rw [if_pos (by omega)]; exact ⟨rfl, rfl⟩
    · dsimp only; rw [if_neg (by omega)]; exact ⟨rfl, rfl⟩
theorem e_starting (p : Nat) (hp : p < cs.length) : Fk D (k+2) i_Score_starting [.val (scV g cs bk), .val (.int (p : Int))] = some (.v (startS g cs p).v, [scV g cs bk, .int (p : Int)]) := by
  have e := List.getElem?_eq_getElem hp
  have hat := atI_cu cs e
  have hq := e_follow_of k g cs bk p hp
  have hs : L2.atI (cs.map fun c => idxV (sndL g c)) (p : Int) = some (idxV (sndL g cs[p])) := atI_map e
  have ev : (startS g cs p).v = .tup [.int (p : Int), .int (followOf cs p), .tup [idxV (sndL g cs[p]), .int cs[p].fade]] := by
    unfold startS Mv.v sndOf fadeOf Snd.v
    simp only [e, Option.map, Option.getD]
  rw [ev]
  refine wc_eq ?_
  refine wc_fn (F_Score_starting _ _) rfl (by simp only [startE, slotOf, List.map, List.length, List.replicate, List.cons_append, List.nil_append, List.length_cons, List.length_nil, Nat.reduceAdd, Nat.reduceSub]; rfl) ?_; show WB D _ B_Score_starting _ _ _ _ _; unfold B_Score_starting
  (repeat' (first | array_get_dec | refine fd_of f_sc_rows g cs bk ?_ | refine me_of f_sc_rows g cs bk ?_ | refine fd_of f_sc_senders g cs bk ?_ | refine me_of f_sc_senders g cs bk ?_ | refine fd_of m_sc_follow_of g cs bk ?_ | refine me_of m_sc_follow_of g cs bk ?_ | array_mem_dec))
theorem e_jumping (p d n : Int) : Fk D (k+2) i_Score_jumping [.val (scV g cs bk), .val (.int p), .val (.int d), .val (.int n)] = some (.v (jumpS g cs p d n).v, [scV g cs bk, .int p, .int d, .int n]) := by
  refine wc_eq ?_
  refine wc_fn (F_Score_jumping _ _) rfl (by simp only [startE, slotOf, List.map, List.length, List.replicate, List.cons_append, List.nil_append, List.length_cons, List.length_nil, Nat.reduceAdd, Nat.reduceSub]; rfl) ?_; show WB D _ B_Score_jumping _ _ _ _ _; unfold B_Score_jumping
  have hd := dget_places cs n
  unfold jumpS
  cases hp : placeOf cs n with
  | none =>
    rw [hp] at hd
    have hs : (dget (placesD cs) (.inl n)).isSome = false := by rw [hd]; rfl
    (repeat' (first | array_get_dec | refine fd_of f_sc_places g cs bk ?_ | refine me_of f_sc_places g cs bk ?_ | array_mem_dec))
  | some q =>
    rw [hp] at hd
    obtain ⟨c, hc, _⟩ := placeOf_some hp
    have hq : q < cs.length := by
      rcases Nat.lt_or_ge q cs.length with g | g
      · exact g
      · rw [List.getElem?_eq_none g] at hc; cases hc
    have hs : (dget (placesD cs) (.inl n)).isSome = true := by rw [hd]; rfl
    have hit : item D.kds (.dct (placesD cs)) (.int n) = some (.int (q : Int)) := by
      simp only [item, keyOf, hd]; rfl
    have hf := e_follow_of k g cs bk q hq
    have hat := atI_cu cs hc
    have ev : (⟨q, followOf cs q, .to (List.range g.chs.length) (fadeOf cs q)⟩ : Mv).v = .tup [.int (q : Int), .int (followOf cs q), .tup [evyV g, .int c.fade]] := by
      unfold Mv.v fadeOf Snd.v
      simp only [hc, Option.map, Option.getD]
      rfl
    simp only [ev]
    (repeat' (first | array_get_dec | refine fd_of f_sc_places g cs bk ?_ | refine me_of f_sc_places g cs bk ?_ | refine fd_of f_sc_rows g cs bk ?_ | refine me_of f_sc_rows g cs bk ?_ | refine fd_of f_sc_everybody g cs bk ?_ | refine me_of f_sc_everybody g cs bk ?_ | refine fd_of m_sc_follow_of g cs bk ?_ | refine me_of m_sc_follow_of g cs bk ?_ | array_mem_dec))
theorem e_passing (p d : Int) (hp : -1 ≤ p) (hd : d = 1 → p + 1 < cs.length) : Fk D (k+3) i_Score_passing [.val (scV g cs bk), .val (.int p), .val (.int d)] = some (.v (passS g cs p d).v, [scV g cs bk, .int p, .int d]) := by
  refine wc_eq ?_
  refine wc_fn (F_Score_passing _ _) rfl (by simp only [startE, slotOf, List.map, List.length, List.replicate, List.cons_append, List.nil_append, List.length_cons, List.length_nil, Nat.reduceAdd, Nat.reduceSub]; rfl) ?_; show WB D _ B_Score_passing _ _ _ _ _; unfold B_Score_passing
  unfold passS
  by_cases h1 : d = 1
  · subst h1
    have hq := e_starting k g cs bk (p + 1).toNat (by have := hd rfl; omega)
    rw [show (((p + 1).toNat : Nat) : Int) = p + 1 by omega] at hq
    rw [if_pos rfl]
    (repeat' (first | array_get_dec | refine fd_of m_sc_starting g cs bk ?_ | refine me_of m_sc_starting g cs bk ?_ | array_mem_dec))
  · rw [if_neg h1]
    (repeat' (first | array_get_dec | array_mem_dec))
    · rw [if_pos (by omega)]; exact ⟨rfl, rfl⟩
    · rw [if_neg (by omega)]; exact ⟨rfl, rfl⟩
theorem e_moved (p d : Int) (act : AC) (hp : -1 ≤ p) (hd : d = 1 → p + 1 < cs.length) : Fk D (k+4) i_Score_moved [.val (scV g cs bk), .val (.int p), .val (.int d), .val act.v] = some (.v (moveS g cs bk p d act).v, [scV g cs bk, .int p, .int d, act.v]) := by
  have hl : (cs.map CU.v).length = cs.length := List.length_map ..
  cases act with
  | wait =>
    have hq := e_passing k g cs bk p d hp hd
    refine wc_eq ?_
    refine wc_fn (F_Score_moved _ _) rfl (by simp only [startE, slotOf, List.map, List.length, List.replicate, List.cons_append, List.nil_append, List.length_cons, List.length_nil, Nat.reduceAdd, Nat.reduceSub]; rfl) ?_; show WB D _ B_Score_moved _ _ _ _ _; unfold B_Score_moved
    unfold AC.v moveS
    (repeat' (first | array_get_dec | refine fd_of m_sc_passing g cs bk ?_ | refine me_of m_sc_passing g cs bk ?_ | array_mem_dec))
  | jump n =>
    have hq := e_jumping (k+1) g cs bk p d n
    refine wc_eq ?_
    refine wc_fn (F_Score_moved _ _) rfl (by simp only [startE, slotOf, List.map, List.length, List.replicate, List.cons_append, List.nil_append, List.length_cons, List.length_nil, Nat.reduceAdd, Nat.reduceSub]; rfl) ?_; show WB D _ B_Score_moved _ _ _ _ _; unfold B_Score_moved
    unfold AC.v moveS
    (repeat' (first | array_get_dec | refine fd_of m_sc_jumping g cs bk ?_ | refine me_of m_sc_jumping g cs bk ?_ | array_mem_dec))
  | go =>
    refine wc_eq ?_
    refine wc_fn (F_Score_moved _ _) rfl (by simp only [startE, slotOf, List.map, List.length, List.replicate, List.cons_append, List.nil_append, List.length_cons, List.length_nil, Nat.reduceAdd, Nat.reduceSub]; rfl) ?_; show WB D _ B_Score_moved _ _ _ _ _; unfold B_Score_moved
    unfold AC.v moveS
    by_cases h1 : p + 1 < cs.length
    · have hq := e_starting (k+1) g cs bk (p + 1).toNat (by omega)
      rw [show (((p + 1).toNat : Nat) : Int) = p + 1 by omega] at hq
      rw [if_pos h1]
      (repeat' (first | array_get_dec | refine fd_of f_sc_rows g cs bk ?_ | refine me_of f_sc_rows g cs bk ?_ | refine fd_of m_sc_starting g cs bk ?_ | refine me_of m_sc_starting g cs bk ?_ | array_mem_dec))
    · rw [if_neg h1]
      (repeat' (first | array_get_dec | refine fd_of f_sc_rows g cs bk ?_ | refine me_of f_sc_rows g cs bk ?_ | array_mem_dec))
  | bck =>
    refine wc_eq ?_
    refine wc_fn (F_Score_moved _ _) rfl (by simp only [startE, slotOf, List.map, List.length, List.replicate, List.cons_append, List.nil_append, List.length_cons, List.length_nil, Nat.reduceAdd, Nat.reduceSub]; rfl) ?_; show WB D _ B_Score_moved _ _ _ _ _; unfold B_Score_moved
    unfold AC.v moveS
    by_cases h1 : 0 ≤ p
    · rw [if_pos h1]
      (repeat' (first | array_get_dec | refine fd_of f_sc_rows g cs bk ?_ | refine me_of f_sc_rows g cs bk ?_ | refine fd_of f_sc_everybody g cs bk ?_ | refine me_of f_sc_everybody g cs bk ?_ | refine fd_of f_sc_back g cs bk ?_ | refine me_of f_sc_back g cs bk ?_ | array_mem_dec))
    · rw [if_neg h1]
      (repeat' (first | array_get_dec | refine fd_of f_sc_rows g cs bk ?_ | refine me_of f_sc_rows g cs bk ?_ | array_mem_dec))
  | hold c l =>
    refine wc_eq ?_
    refine wc_fn (F_Score_moved _ _) rfl (by simp only [startE, slotOf, List.map, List.length, List.replicate, List.cons_append, List.nil_append, List.length_cons, List.length_nil, Nat.reduceAdd, Nat.reduceSub]; rfl) ?_; show WB D _ B_Score_moved _ _ _ _ _; unfold B_Score_moved
    unfold AC.v moveS
    (repeat' (first | array_get_dec | refine fd_of f_sc_rows g cs bk ?_ | refine me_of f_sc_rows g cs bk ?_ | array_mem_dec))
  | fre c =>
    refine wc_eq ?_
    refine wc_fn (F_Score_moved _ _) rfl (by simp only [startE, slotOf, List.map, List.length, List.replicate, List.cons_append, List.nil_append, List.length_cons, List.length_nil, Nat.reduceAdd, Nat.reduceSub]; rfl) ?_; show WB D _ B_Score_moved _ _ _ _ _; unfold B_Score_moved
    unfold AC.v moveS
    (repeat' (first | array_get_dec | refine fd_of f_sc_rows g cs bk ?_ | refine me_of f_sc_rows g cs bk ?_ | array_mem_dec))
end
end Law
end
section
set_option Elab.async false
set_option linter.all false
set_option maxRecDepth 100000
set_option maxHeartbeats 4000000
set_option hygiene false
local macro_rules | `(tactic| array_get_dec) => `(tactic| first | refine Eng.wb_cons ?_ | refine Eng.ws_asg ?_ | refine Eng.ws_ret ?_ | refine Eng.ws_ife ?_ | refine Eng.ws_asgT ?_ | refine Eng.ws_par ?_ | refine Eng.ws_exp ?_ | refine Eng.wb_nil ?_ | refine Eng.ws_pass ?_ | refine Eng.ws_retN ?_ | refine Eng.ws_subS ?_ | refine Eng.ws_fldS ?_ | refine Eng.ws_app rfl ?_ | refine Eng.ws_brk ?_ | refine Eng.ws_cont ?_ | refine Eng.wv_of ?_ | refine Eng.wn_of ?_ | refine Eng.wt_of ?_ | refine Eng.we_var rfl ?_ | refine Eng.lk_of rfl ?_ | refine Eng.we_lit ?_ | refine Eng.fzw_v ?_ | refine Eng.fzw_val rfl ?_ | refine Eng.fzw_o ?_ | (apply Eng.fzw_own rfl; · (repeat (first | exact Eng.set_z | apply Eng.set_s))) | refine Eng.wf_cons ?_ | refine Eng.wf_nil ?_ | refine Eng.wa_cons ?_ | refine Eng.wa_nil ?_ | refine Eng.we_tup ?_ | refine Eng.we_ix ?_ | refine Eng.we_bin ?_ | refine Eng.we_cmp ?_ | refine Eng.we_fld ?_ | refine Eng.we_call ?_ | refine Eng.we_meth ?_ | refine Eng.we_blt ?_ | refine Eng.we_lst ?_ | refine Eng.we_ife ?_ | refine Eng.we_and2 ?_ | refine Eng.we_or2 ?_ | refine Eng.we_not ?_ | refine Eng.we_neg ?_ | refine Eng.we_isB ?_ | refine Eng.we_isC ?_ | refine Eng.we_chn ?_ | refine Eng.we_slc ?_ | refine Eng.we_dget1 ?_ | refine Eng.we_dget2 ?_ | refine Eng.isd_of rfl ?_ | refine Eng.we_dsp ?_ | refine Eng.wd_cons ?_ | refine Eng.wd_nil ?_ | refine Eng.wo_no ?_ | refine Eng.wo_so ?_ | refine Eng.wts_nil ?_ | refine Eng.wts_one ?_ | refine Eng.wi_seq ?_ | refine Eng.wi_rng1 ?_ | refine Eng.wi_rng2 ?_ | refine Eng.wi_enum ?_ | refine Eng.wi_zip ?_ | refine Eng.bo_addI ?_ | refine Eng.bo_subI ?_ | refine Eng.cm_ltI ?_ | refine Eng.cm_leI ?_ | refine Eng.cm_gtI ?_ | refine Eng.cm_geI ?_ | refine Eng.cm_eqI ?_ | refine Eng.cm_neI ?_ | refine Eng.cm_eqS ?_ | refine Eng.cm_neS ?_ | refine Eng.cm_isN ?_ | refine Eng.cm_isnotN ?_ | refine Eng.cm_inD rfl ?_ | refine Eng.cm_ninD rfl ?_ | refine Eng.cm_inTS ?_ | refine Eng.cm_inLS ?_ | refine Eng.cm_ninTS ?_ | refine Eng.cm_ninLS ?_ | refine Eng.ix_t0 ?_ | refine Eng.ix_t1 ?_ | refine Eng.ix_t2 ?_ | refine Eng.ix_t3 ?_ | refine Eng.ix_t4 ?_ | refine Eng.ix_l0 ?_ | refine Eng.ix_l1 ?_ | refine Eng.ix_l2 ?_ | refine Eng.ix_T (by with_reducible assumption) ?_ | refine Eng.ix_L (by with_reducible assumption) ?_ | refine Eng.in_of ?_ | refine Eng.tupn_of rfl ?_ | refine Eng.hd_of ?_ | refine Eng.dct_of ?_ | refine Eng.bo_mulI (by first | exact Eng.small_l (by first | decide | with_reducible assumption) | exact Eng.small_r (by first | decide | with_reducible assumption) | exact Eng.small_r (Eng.small_of' (by omega) (by omega)) | exact Eng.small_l (Eng.small_of' (by omega) (by omega))) ?_ | refine Eng.bo_fdiv (by first | decide | with_reducible assumption | exact Eng.nat31_of (by omega) (by omega)) ?_ | refine Eng.bo_mod (by first | decide | omega) ?_ | refine Eng.bo_addT (by first | with_reducible assumption | decide) ?_ | refine Eng.bo_addL (by first | with_reducible assumption | decide) ?_ | refine Eng.bo_addS (by first | with_reducible assumption | decide) ?_ | refine Eng.bo_of (by with_reducible assumption) ?_ | refine Eng.cm_of (by with_reducible assumption) ?_ | refine Eng.ix_of (by with_reducible assumption) ?_ | refine Eng.sl_of (by with_reducible assumption) ?_ | refine Eng.bl_of (by with_reducible assumption) ?_ | refine Eng.bl_divmod (by first | decide | with_reducible assumption | exact Eng.nat31_of (by omega) (by omega)) ?_ | refine Eng.fd_of (by with_reducible assumption) ?_ | refine Eng.me_of (by with_reducible assumption) ?_ | refine Eng.call_plain rfl rfl ?_ | refine Eng.call_well rfl (fun _ => rfl) ?_ | refine Eng.set_l0 ?_ | refine Eng.set_l1 ?_ | refine Eng.set_l2 ?_ | (apply Eng.stw_v; · (repeat (first | exact Eng.put_z rfl | exact Eng.put_z (by with_reducible assumption) | apply Eng.put_s))) | (apply Eng.stw_o; · (repeat (first | exact Eng.put_z rfl | exact Eng.put_z (by with_reducible assumption) | apply Eng.put_s))) | (apply Eng.stw_val rfl; · (repeat (first | exact Eng.put_z rfl | exact Eng.put_z (by with_reducible assumption) | apply Eng.put_s))) | (apply Eng.stw_own rfl; · (repeat (first | exact Eng.set_z | apply Eng.set_s)); · (repeat (first | exact Eng.put_z rfl | exact Eng.put_z (by with_reducible assumption) | apply Eng.put_s))) | refine Eng.stws_nil ?_ | (apply Eng.stws_cons; · (repeat (first | exact Eng.put_z rfl | exact Eng.put_z (by with_reducible assumption) | apply Eng.put_s))) | refine Eng.tgw_nil ?_ | (apply Eng.tgw_nm; · (repeat (first | exact Eng.put_z rfl | exact Eng.put_z (by with_reducible assumption) | apply Eng.put_s))) | refine Eng.tgw_sub ?_ | (apply Eng.wrw_own rfl; · (repeat (first | exact Eng.set_z | apply Eng.set_s))) | (apply Eng.wrw_lent rfl; · (repeat (first | exact Eng.set_z | apply Eng.set_s))) | refine Eng.mvw_v ?_ | refine Eng.mvw_o ?_ | refine Eng.mvw_val rfl ?_ | (apply Eng.mvw_own rfl; · (repeat (first | exact Eng.set_z | apply Eng.set_s))))
local macro_rules | `(tactic| array_mem_dec) => `(tactic| first | refine Eng.fd_of rfl ?_ | refine Eng.me_of rfl ?_ | refine Eng.wc_of (by with_reducible assumption) ?_ | refine Eng.sm_of rfl ?_ | refine Eng.sm_of (by with_reducible assumption) ?_ | refine Eng.tr_of rfl ?_ | refine Eng.tr_of (by with_reducible assumption) ?_ | refine Eng.bl_of rfl ?_ | refine Eng.sl_of rfl ?_ | refine Eng.bo_of rfl ?_ | refine Eng.cm_of rfl ?_ | refine Eng.ix_of rfl ?_ | refine Eng.outs_of rfl ?_ | refine Eng.ifb_t (by first | rfl | with_reducible assumption | (simp only [Bool.not_eq_true']; with_reducible assumption) | (simp only [decide_eq_true_eq, beq_iff_eq, Bool.not_eq_true', bne_iff_ne, decide_eq_false_iff_not, beq_eq_false_iff_ne, ne_eq]; omega) | decide) ?_ | refine Eng.ifb_f (by first | rfl | with_reducible assumption | (simp only [Bool.not_eq_false']; with_reducible assumption) | (simp only [decide_eq_false_iff_not, beq_eq_false_iff_ne, Bool.not_eq_false', ne_eq, beq_iff_eq, decide_eq_true_eq]; omega) | decide) ?_ | exact ⟨rfl, rfl⟩ | exact rfl | (refine Eng.ifb_s (fun hc => ?_) (fun hc => ?_) <;> (try simp only [decide_eq_true_eq, decide_eq_false_iff_not, beq_iff_eq, beq_eq_false_iff_ne, ne_eq, Bool.not_eq_true', Bool.not_eq_false', Int.not_lt, Int.not_le] at hc)))
namespace Law
open Eng PySem
/-! ### stages -/
structure SG where
  runs : List Rn
  place : Int
  due : Int
  held : List (Str × Int)
def SG.v (s : SG) : Val := .tup [.tup (s.runs.map Rn.v), .int s.place, .int s.due, .tup (s.held.map mvV)]
structure HOk (g : RG) (h : List (Str × Int)) : Prop where
  ks : ∀ m ∈ h, m.1 ∈ g.chs ∧ 0 ≤ m.2 ∧ m.2 ≤ g.top
  asc : h.Pairwise fun a b => a.1.cps.toList < b.1.cps.toList
structure SG.Ok (g : RG) (cs : List CU) (s : SG) : Prop where
  nr : s.runs.length = g.chs.length
  ro : ∀ r ∈ s.runs, r.Ok
  p0 : -1 ≤ s.place
  p1 : s.place < cs.length
  d : s.due = -1 ∨ (1 ≤ s.due ∧ s.due ≤ 5 ∧ s.place + 1 < cs.length)
  h : HOk g s.held
def AC.Ok (g : RG) : AC → Prop
  | .jump n => 1 ≤ n ∧ n ≤ 999
  | .hold c l => c ∈ g.chs ∧ 0 ≤ l ∧ l ≤ g.top
  | .fre c => c ∈ g.chs
  | _ => True
theorem keys_ne {h : List (Str × Int)} (ha : h.Pairwise fun a b => a.1.cps.toList < b.1.cps.toList) : h.Pairwise fun a b => (Sum.inr a.1 : L2.Key) ≠ .inr b.1 := by
  refine ha.imp fun {a b} hlt e => ?_
  rw [Sum.inr.inj e] at hlt
  exact List.lt_irrefl _ hlt
theorem names_nodup {h : List (Str × Int)} (ha : h.Pairwise fun a b => a.1.cps.toList < b.1.cps.toList) : (h.map (·.1)).Nodup := by
  rw [List.nodup_iff_pairwise_ne, List.pairwise_map]
  refine ha.imp fun {a b} hlt e => ?_
  rw [e] at hlt
  exact List.lt_irrefl _ hlt
theorem HOk.len {g : RG} (hg : g.Ok) {h : List (Str × Int)} (ho : HOk g h) : h.length ≤ 8 := by
  have h1 := List.Nodup.length_le_of_subset (names_nodup ho.asc) (l₂ := g.chs) (fun s hs => by
    obtain ⟨m, hm, rfl⟩ := List.mem_map.mp hs
    exact (ho.ks m hm).1)
  have := hg.l8
  rw [List.length_map] at h1
  omega
/-! ### held -/
def tableS (h : List (Str × Int)) : AC → List (Str × Int)
  | .hold c l => h.filter (fun m => !(m.1 == c)) ++ [(c, l)]
  | .fre c => h.filter (fun m => !(m.1 == c))
  | _ => h
def heldS (h : List (Str × Int)) (a : AC) : List (Str × Int) := (srtS ((tableS h a).map (·.1))).map fun s => (s, (lookM (tableS h a) s).getD 0)
theorem lookM_mem {t : List (Str × Int)} {s : Str} (h : s ∈ t.map (·.1)) : ∃ i, lookM t s = some i ∧ (s, i) ∈ t := by
  unfold lookM
  cases e : t.find? fun m => decide (m.1 = s) with
  | none =>
    rw [List.find?_eq_none] at e
    obtain ⟨m, hm, rfl⟩ := List.mem_map.mp h
    exact absurd (decide_eq_true rfl) (e m hm)
  | some m =>
    have h1 := List.find?_some e
    have h2 := List.mem_of_find?_eq_some e
    have : m.1 = s := of_decide_eq_true h1
    subst this
    exact ⟨m.2, rfl, h2⟩
theorem tableS_ok {g : RG} {h : List (Str × Int)} (ho : HOk g h) {a : AC} (ha : a.Ok g) : (∀ m ∈ tableS h a, m.1 ∈ g.chs ∧ 0 ≤ m.2 ∧ m.2 ≤ g.top) ∧ ((tableS h a).map (·.1)).Nodup := by
  have key : ∀ c, ((h.filter fun m => !(m.1 == c)).map (·.1)).Nodup := fun c => names_nodup (ho.asc.filter _)
  cases a with
  | hold c l =>
    constructor
    · intro m hm
      rcases List.mem_append.mp hm with hm | hm
      · exact ho.ks m (List.mem_filter.mp hm).1
      · simp at hm; subst hm; exact ha
    · show ((h.filter (fun m => !(m.1 == c)) ++ [(c, l)]).map (·.1)).Nodup
      rw [List.map_append, List.nodup_append]
      refine ⟨key c, by simp, ?_⟩
      intro x hx y hy e
      simp at hy
      subst hy e
      obtain ⟨m, hm, rfl⟩ := List.mem_map.mp hx
      have := (List.mem_filter.mp hm).2
      simp at this
  | fre c => exact ⟨fun m hm => ho.ks m (List.mem_filter.mp hm).1, key c⟩
  | go => exact ⟨ho.ks, names_nodup ho.asc⟩
  | bck => exact ⟨ho.ks, names_nodup ho.asc⟩
  | wait => exact ⟨ho.ks, names_nodup ho.asc⟩
  | jump n => exact ⟨ho.ks, names_nodup ho.asc⟩
theorem heldS_ok {g : RG} {h : List (Str × Int)} (ho : HOk g h) {a : AC} (ha : a.Ok g) : HOk g (heldS h a) := by
  obtain ⟨t1, t2⟩ := tableS_ok ho ha
  constructor
  · intro m hm
    obtain ⟨s, hs, rfl⟩ := List.mem_map.mp hm
    rw [mem_srtS] at hs
    obtain ⟨i, e, hi⟩ := lookM_mem hs
    rw [e]
    exact t1 _ hi
  · unfold heldS
    rw [List.pairwise_map]
    exact srtS_asc _ t2
/-! ### one act -/
def runB (g : RG) (cs : List CU) (a : AC) (m : Mv) (i : Nat) (r : Rn) : Rn :=
  let here := if a = .wait then tickR r else r
  match m.s with
  | .no => here
  | .to w l => if i ∈ w then sentR here ((meanAt g cs (m.p + 1).toNat)[i]?.getD 0) l else here
def stepS (g : RG) (cs : List CU) (bk : Int) (s : SG) (a : AC) : SG := match a with
  | .hold c l => { s with held := heldS s.held (.hold c l) }
  | .fre c => { s with held := heldS s.held (.fre c) }
  | a => ⟨(s.runs.zipIdx 0).map fun p => runB g cs a (moveS g cs bk s.place s.due a) p.2 p.1, (moveS g cs bk s.place s.due a).p, (moveS g cs bk s.place s.due a).d, s.held⟩
def stagesS (g : RG) (cs : List CU) (bk : Int) : SG → List AC → List SG
  | s, [] => [s]
  | s, a :: as => s :: stagesS g cs bk (stepS g cs bk s a) as
def firstS (g : RG) : SG := ⟨List.replicate g.chs.length (restR 0), -1, -1, []⟩
def lookS (g : RG) (s : SG) : List Int := (g.chs.zip s.runs).map fun p => (lookM s.held p.1).getD (levR p.2)
/-! ### what stays so -/
structure MOk (cs : List CU) (m : Mv) : Prop where
  p0 : -1 ≤ m.p
  p1 : m.p < cs.length
  d : m.d = -1 ∨ (1 ≤ m.d ∧ m.d ≤ 5 ∧ m.p + 1 < cs.length)
  l : ∀ w l, m.s = .to w l → 0 ≤ l ∧ l ≤ 5
theorem follow_ok {g : RG} {cs : List CU} (hc : LOk g cs) {p : Nat} (hp : p < cs.length) : followOf cs p = -1 ∨ (1 ≤ followOf cs p ∧ followOf cs p ≤ 5 ∧ (p : Int) + 1 < cs.length) := by
  unfold followOf
  have e := List.getElem?_eq_getElem hp
  rw [e]
  simp only [Option.bind]
  cases hf : cs[p].fol with
  | none => exact .inl rfl
  | some f =>
    have := (hc.ok _ (List.getElem_mem hp)).fo f hf
    simp only
    split
    · exact .inl rfl
    · exact .inr ⟨this.1, this.2, by omega⟩
theorem fade_ok {g : RG} {cs : List CU} (hc : LOk g cs) (p : Nat) : 0 ≤ fadeOf cs p ∧ fadeOf cs p ≤ 5 := by
  unfold fadeOf
  cases e : cs[p]? with
  | none => exact ⟨by decide, by decide⟩
  | some c =>
    have := hc.ok c (List.mem_of_getElem? e)
    exact ⟨this.f0, this.f5⟩
theorem startS_ok {g : RG} {cs : List CU} (hc : LOk g cs) {p : Nat} (hp : p < cs.length) : MOk cs (startS g cs p) :=
  ⟨by show -1 ≤ (p : Int); omega, by show (p : Int) < cs.length; omega, follow_ok hc hp, fun w l e => by cases e; exact fade_ok hc p⟩
theorem moveS_ok {g : RG} {cs : List CU} {bk p d : Int} (hc : LOk g cs) (hb0 : 0 ≤ bk) (hb5 : bk ≤ 5) (p0 : -1 ≤ p) (p1 : p < cs.length) (hd : d = -1 ∨ (1 ≤ d ∧ d ≤ 5 ∧ p + 1 < cs.length)) (a : AC) : MOk cs (moveS g cs bk p d a) := by
  have same : MOk cs ⟨p, d, .no⟩ := ⟨p0, p1, hd, fun w l e => by cases e⟩
  cases a with
  | wait =>
    unfold moveS passS
    by_cases h1 : d = 1
    · simp only [h1, if_true]
      exact startS_ok hc (by omega)
    · simp only [h1, if_false]
      refine ⟨p0, p1, ?_, fun w l e => by cases e⟩
      simp only
      split
      · right; omega
      · omega
  | jump n =>
    show MOk cs (jumpS g cs p d n)
    unfold jumpS
    cases e : placeOf cs n with
    | none => exact same
    | some q =>
      obtain ⟨c, hq, _⟩ := placeOf_some e
      have hq : q < cs.length := by
        rcases Nat.lt_or_ge q cs.length with g | g
        · exact g
        · rw [List.getElem?_eq_none g] at hq; cases hq
      exact ⟨by show -1 ≤ (q : Int); omega, by show (q : Int) < cs.length; omega, follow_ok hc hq, fun w l e => by cases e; exact fade_ok hc q⟩
  | go =>
    unfold moveS
    simp only
    split
    · exact startS_ok hc (by omega)
    · exact same
  | bck =>
    unfold moveS
    simp only
    split
    · exact ⟨by show -1 ≤ p - 1; omega, by show p - 1 < cs.length; omega, .inl rfl, fun w l e => by cases e; exact ⟨hb0, hb5⟩⟩
    · exact same
  | hold c l => exact same
  | fre c => exact same
theorem lookM_bounds {g : RG} {c : CU} (h : c.Ok g) {s : Str} {i : Int} (e : lookM c.mv s = some i) : 0 ≤ i ∧ i ≤ g.top := by
  unfold lookM at e
  cases e2 : c.mv.find? fun m => decide (m.1 = s) with
  | none => rw [e2] at e; cases e
  | some m =>
    rw [e2] at e
    cases e
    exact (h.mks m (List.mem_of_find?_eq_some e2)).2
theorem meanAt_bounds {g : RG} {cs : List CU} (hg : g.Ok) (hc : LOk g cs) : ∀ i, ∀ l ∈ meanAt g cs i, 0 ≤ l ∧ l ≤ g.top := by
  have t1 := hg.t1
  have key : ∀ (cs' : List CU) (m : List Int), (∀ c ∈ cs', c.Ok g) → (∀ l ∈ m, 0 ≤ l ∧ l ≤ g.top) → ∀ l ∈ cs'.foldl (behindM g.chs) m, 0 ≤ l ∧ l ≤ g.top := by
    intro cs'
    induction cs' with
    | nil => intro m _ h; exact h
    | cons c cs' ih =>
      intro m ho h
      refine ih _ (fun x hx => ho x (by simp [hx])) ?_
      intro l hl
      unfold behindM at hl
      obtain ⟨p, hp, rfl⟩ := List.mem_map.mp hl
      cases e : lookM c.mv p.1 with
      | none => exact h p.2 (List.of_mem_zip hp).2
      | some i => exact lookM_bounds (ho c (by simp)) e
  intro i
  refine key _ _ (fun c hc' => hc.ok c (List.mem_of_mem_take hc')) ?_
  intro l hl
  rw [List.mem_replicate] at hl
  omega
theorem runB_ok {g : RG} {cs : List CU} (hg : g.Ok) (hc : LOk g cs) {a : AC} {m : Mv} (hm : MOk cs m) {i : Nat} {r : Rn} (hr : r.Ok) : (runB g cs a m i r).Ok := by
  have hh : (if a = .wait then tickR r else r).Ok := by
    split
    · exact tickR_ok hr
    · exact hr
  unfold runB
  simp only
  cases e : m.s with
  | no => exact hh
  | to w l =>
    simp only
    split
    · have t9 := hg.t9
      have t1 := hg.t1
      have hb : 0 ≤ ((meanAt g cs (m.p + 1).toNat)[i]?.getD 0) ∧ ((meanAt g cs (m.p + 1).toNat)[i]?.getD 0) ≤ g.top := by
        cases e2 : (meanAt g cs (m.p + 1).toNat)[i]? with
        | none => exact ⟨by decide, by show (0 : Int) ≤ _; omega⟩
        | some l => exact meanAt_bounds hg hc _ l (List.mem_of_getElem? e2)
      have hl := hm.l w l e
      exact sentR_ok hh hb.1 (by omega) hl.1 hl.2
    · exact hh
theorem stepS_ok {g : RG} {cs : List CU} {bk : Int} (hg : g.Ok) (hc : LOk g cs) (hb0 : 0 ≤ bk) (hb5 : bk ≤ 5) {s : SG} (hs : s.Ok g cs) {a : AC} (ha : a.Ok g) : (stepS g cs bk s a).Ok g cs := by
  have other : SG.Ok g cs ⟨(s.runs.zipIdx 0).map fun p => runB g cs a (moveS g cs bk s.place s.due a) p.2 p.1, (moveS g cs bk s.place s.due a).p, (moveS g cs bk s.place s.due a).d, s.held⟩ := by
    have hm := moveS_ok hc hb0 hb5 hs.p0 hs.p1 hs.d a
    refine ⟨by simp [hs.nr], ?_, hm.p0, hm.p1, hm.d, hs.h⟩
    intro r hr
    obtain ⟨p, hp, rfl⟩ := List.mem_map.mp hr
    have : p.1 ∈ s.runs := by
      obtain ⟨i, hi, e⟩ := List.getElem_of_mem hp
      have e3 : (s.runs.zipIdx 0)[i]? = some p := by rw [List.getElem?_eq_getElem hi, e]
      exact List.mem_of_getElem? (getElem?_zipIdx e3).1
    exact runB_ok hg hc hm (hs.ro _ this)
  cases a with
  | hold c l => exact ⟨hs.nr, hs.ro, hs.p0, hs.p1, hs.d, heldS_ok hs.h ha⟩
  | fre c => exact ⟨hs.nr, hs.ro, hs.p0, hs.p1, hs.d, heldS_ok hs.h ha⟩
  | go => exact other
  | bck => exact other
  | wait => exact other
  | jump n => exact other
theorem firstS_ok {g : RG} {cs : List CU} : (firstS g).Ok g cs := by
  refine ⟨by simp [firstS], ?_, by show (-1 : Int) ≤ -1; decide, by show (-1 : Int) < _; omega, .inl rfl, ⟨(fun _ h => nomatch h), List.Pairwise.nil⟩⟩
  intro r hr
  unfold firstS at hr
  simp only [List.mem_replicate] at hr
  rw [hr.2]
  exact restR_ok (by decide) (by decide)
end Law
end
section
set_option Elab.async false
set_option linter.all false
set_option maxRecDepth 100000
set_option maxHeartbeats 4000000
set_option hygiene false
local macro_rules | `(tactic| array_get_dec) => `(tactic| first | refine Eng.wb_cons ?_ | refine Eng.ws_asg ?_ | refine Eng.ws_ret ?_ | refine Eng.ws_ife ?_ | refine Eng.ws_asgT ?_ | refine Eng.ws_par ?_ | refine Eng.ws_exp ?_ | refine Eng.wb_nil ?_ | refine Eng.ws_pass ?_ | refine Eng.ws_retN ?_ | refine Eng.ws_subS ?_ | refine Eng.ws_fldS ?_ | refine Eng.ws_app rfl ?_ | refine Eng.ws_brk ?_ | refine Eng.ws_cont ?_ | refine Eng.wv_of ?_ | refine Eng.wn_of ?_ | refine Eng.wt_of ?_ | refine Eng.we_var rfl ?_ | refine Eng.lk_of rfl ?_ | refine Eng.we_lit ?_ | refine Eng.fzw_v ?_ | refine Eng.fzw_val rfl ?_ | refine Eng.fzw_o ?_ | (apply Eng.fzw_own rfl; · (repeat (first | exact Eng.set_z | apply Eng.set_s))) | refine Eng.wf_cons ?_ | refine Eng.wf_nil ?_ | refine Eng.wa_cons ?_ | refine Eng.wa_nil ?_ | refine Eng.we_tup ?_ | refine Eng.we_ix ?_ | refine Eng.we_bin ?_ | refine Eng.we_cmp ?_ | refine Eng.we_fld ?_ | refine Eng.we_call ?_ | refine Eng.we_meth ?_ | refine Eng.we_blt ?_ | refine Eng.we_lst ?_ | refine Eng.we_ife ?_ | refine Eng.we_and2 ?_ | refine Eng.we_or2 ?_ | refine Eng.we_not ?_ | refine Eng.we_neg ?_ | refine Eng.we_isB ?_ | refine Eng.we_isC ?_ | refine Eng.we_chn ?_ | refine Eng.we_slc ?_ | refine Eng.we_dget1 ?_ | refine Eng.we_dget2 ?_ | refine Eng.isd_of rfl ?_ | refine Eng.we_dsp ?_ | refine Eng.wd_cons ?_ | refine Eng.wd_nil ?_ | refine Eng.wo_no ?_ | refine Eng.wo_so ?_ | refine Eng.wts_nil ?_ | refine Eng.wts_one ?_ | refine Eng.wi_seq ?_ | refine Eng.wi_rng1 ?_ | refine Eng.wi_rng2 ?_ | refine Eng.wi_enum ?_ | refine Eng.wi_zip ?_ | refine Eng.bo_addI ?_ | refine Eng.bo_subI ?_ | refine Eng.cm_ltI ?_ | refine Eng.cm_leI ?_ | refine Eng.cm_gtI ?_ | refine Eng.cm_geI ?_ | refine Eng.cm_eqI ?_ | refine Eng.cm_neI ?_ | refine Eng.cm_eqS ?_ | refine Eng.cm_neS ?_ | refine Eng.cm_isN ?_ | refine Eng.cm_isnotN ?_ | refine Eng.cm_inD rfl ?_ | refine Eng.cm_ninD rfl ?_ | refine Eng.cm_inTS ?_ | refine Eng.cm_inLS ?_ | refine Eng.cm_ninTS ?_ | refine Eng.cm_ninLS ?_ | refine Eng.ix_t0 ?_ | refine Eng.ix_t1 ?_ | refine Eng.ix_t2 ?_ | refine Eng.ix_t3 ?_ | refine Eng.ix_t4 ?_ | refine Eng.ix_l0 ?_ | refine Eng.ix_l1 ?_ | refine Eng.ix_l2 ?_ | refine Eng.ix_T (by with_reducible assumption) ?_ | refine Eng.ix_L (by with_reducible assumption) ?_ | refine Eng.in_of ?_ | refine Eng.tupn_of rfl ?_ | refine Eng.hd_of ?_ | refine Eng.dct_of ?_ | refine Eng.bo_mulI (by first | exact Eng.small_l (by first | decide | with_reducible assumption) | exact Eng.small_r (by first | decide | with_reducible assumption) | exact Eng.small_r (Eng.small_of' (by omega) (by omega)) | exact Eng.small_l (Eng.small_of' (by omega) (by omega))) ?_ | refine Eng.bo_fdiv (by first | decide | with_reducible assumption | exact Eng.nat31_of (by omega) (by omega)) ?_ | refine Eng.bo_mod (by first | decide | omega) ?_ | refine Eng.bo_addT (by first | with_reducible assumption | decide) ?_ | refine Eng.bo_addL (by first | with_reducible assumption | decide) ?_ | refine Eng.bo_addS (by first | with_reducible assumption | decide) ?_ | refine Eng.bo_of (by with_reducible assumption) ?_ | refine Eng.cm_of (by with_reducible assumption) ?_ | refine Eng.ix_of (by with_reducible assumption) ?_ | refine Eng.sl_of (by with_reducible assumption) ?_ | refine Eng.bl_of (by with_reducible assumption) ?_ | refine Eng.bl_divmod (by first | decide | with_reducible assumption | exact Eng.nat31_of (by omega) (by omega)) ?_ | refine Eng.fd_of (by with_reducible assumption) ?_ | refine Eng.me_of (by with_reducible assumption) ?_ | refine Eng.call_plain rfl rfl ?_ | refine Eng.call_well rfl (fun _ => rfl) ?_ | refine Eng.set_l0 ?_ | refine Eng.set_l1 ?_ | refine Eng.set_l2 ?_ | (apply Eng.stw_v; · (repeat (first | exact Eng.put_z rfl | exact Eng.put_z (by with_reducible assumption) | apply Eng.put_s))) | (apply Eng.stw_o; · (repeat (first | exact Eng.put_z rfl | exact Eng.put_z (by with_reducible assumption) | apply Eng.put_s))) | (apply Eng.stw_val rfl; · (repeat (first | exact Eng.put_z rfl | exact Eng.put_z (by with_reducible assumption) | apply Eng.put_s))) | (apply Eng.stw_own rfl; · (repeat (first | exact Eng.set_z | apply Eng.set_s)); · (repeat (first | exact Eng.put_z rfl | exact Eng.put_z (by with_reducible assumption) | apply Eng.put_s))) | refine Eng.stws_nil ?_ | (apply Eng.stws_cons; · (repeat (first | exact Eng.put_z rfl | exact Eng.put_z (by with_reducible assumption) | apply Eng.put_s))) | refine Eng.tgw_nil ?_ | (apply Eng.tgw_nm; · (repeat (first | exact Eng.put_z rfl | exact Eng.put_z (by with_reducible assumption) | apply Eng.put_s))) | refine Eng.tgw_sub ?_ | (apply Eng.wrw_own rfl; · (repeat (first | exact Eng.set_z | apply Eng.set_s))) | (apply Eng.wrw_lent rfl; · (repeat (first | exact Eng.set_z | apply Eng.set_s))) | refine Eng.mvw_v ?_ | refine Eng.mvw_o ?_ | refine Eng.mvw_val rfl ?_ | (apply Eng.mvw_own rfl; · (repeat (first | exact Eng.set_z | apply Eng.set_s))))
local macro_rules | `(tactic| array_mem_dec) => `(tactic| first | refine Eng.fd_of rfl ?_ | refine Eng.me_of rfl ?_ | refine Eng.wc_of (by with_reducible assumption) ?_ | refine Eng.sm_of rfl ?_ | refine Eng.sm_of (by with_reducible assumption) ?_ | refine Eng.tr_of rfl ?_ | refine Eng.tr_of (by with_reducible assumption) ?_ | refine Eng.bl_of rfl ?_ | refine Eng.sl_of rfl ?_ | refine Eng.bo_of rfl ?_ | refine Eng.cm_of rfl ?_ | refine Eng.ix_of rfl ?_ | refine Eng.outs_of rfl ?_ | refine Eng.ifb_t (by first | rfl | with_reducible assumption | (simp only [Bool.not_eq_true']; with_reducible assumption) | (simp only [decide_eq_true_eq, beq_iff_eq, Bool.not_eq_true', bne_iff_ne, decide_eq_false_iff_not, beq_eq_false_iff_ne, ne_eq]; omega) | decide) ?_ | refine Eng.ifb_f (by first | rfl | with_reducible assumption | (simp only [Bool.not_eq_false']; with_reducible assumption) | (simp only [decide_eq_false_iff_not, beq_eq_false_iff_ne, Bool.not_eq_false', ne_eq, beq_iff_eq, decide_eq_true_eq]; omega) | decide) ?_ | exact ⟨rfl, rfl⟩ | exact rfl | (refine Eng.ifb_s (fun hc => ?_) (fun hc => ?_) <;> (try simp only [decide_eq_true_eq, decide_eq_false_iff_not, beq_iff_eq, beq_eq_false_iff_ne, ne_eq, Bool.not_eq_true', Bool.not_eq_false', Int.not_lt, Int.not_le] at hc)))
namespace Law
open Eng PySem
section
variable (k : Nat) (g : RG) (cs : List CU) (bk : Int)
theorem atI_ints {l : List Int} {i : Nat} (h : i < l.length) : L2.atI (l.map Val.int) (i : Int) = some (.int (l[i]?.getD 0)) := by
  have e : l[i]? = some l[i] := List.getElem?_eq_getElem h
  rw [e]
  exact atI_map e
theorem e_run_behind (hg : g.Ok) (a : AC) (m : Mv) (i : Nat) (r : Rn) (hr : r.Ok) (hi : i < g.chs.length) (hp : -1 ≤ m.p) (hp2 : m.p < cs.length) : Fk D (k+3) i_Score_run_behind [.val (scV g cs bk), .val (.int (i : Int)), .val r.v, .val a.v, .val (.int m.p), .val m.s.v] = some (.v (runB g cs a m i r).v, [scV g cs bk, .int (i : Int), r.v, a.v, .int m.p, m.s.v]) := by
  have h1 := e_ticked k r
  have hm : L2.atI ((List.range (cs.length + 1)).map fun i => lvV (meanAt g cs i)) (m.p + 1) = some (lvV (meanAt g cs (m.p + 1).toNat)) := by
    rw [show m.p + 1 = (((m.p + 1).toNat : Nat) : Int) by omega]
    refine atI_map ?_
    rw [List.getElem?_range (by omega)]
    congr 1
  have hl := atI_ints (l := meanAt g cs (m.p + 1).toNat) (i := i) (by rw [meanAt_len]; exact hi)
  refine wc_eq ?_
  refine wc_fn (F_Score_run_behind _ _) rfl (by simp only [startE, slotOf, List.map, List.length, List.replicate, List.cons_append, List.nil_append, List.length_cons, List.length_nil, Nat.reduceAdd, Nat.reduceSub]; rfl) ?_; show WB D _ B_Score_run_behind _ _ _ _ _; unfold B_Score_run_behind
  refine wb_cut (fun ε => ε = [.val (scV g cs bk), .val (.int (i : Int)), .val r.v, .val a.v, .val (.int m.p), .val m.s.v, .val (if a = .wait then tickR r else r).v, .un, .un]) ?_ ?_
  · by_cases ha : a = .wait
    · subst ha
      rw [if_pos rfl]
      unfold AC.v
      (repeat' (first | array_get_dec | array_mem_dec))
    · rw [if_neg ha]
      have hne : ∃ w rest, a.v = .tup (.str w :: rest) ∧ (w == Sl [119, 97, 105, 116]) = false := by
        cases a with
        | wait => exact absurd rfl ha
        | go => exact ⟨_, _, rfl, by decide⟩
        | bck => exact ⟨_, _, rfl, by decide⟩
        | jump n => exact ⟨_, _, rfl, by decide⟩
        | hold c l => exact ⟨_, _, rfl, by decide⟩
        | fre c => exact ⟨_, _, rfl, by decide⟩
      obtain ⟨w, rest, ev, hw⟩ := hne
      rw [ev]
      (repeat' (first | array_get_dec | array_mem_dec))
  · rintro ε1 rfl
    unfold runB
    have hh : (if a = .wait then tickR r else r).Ok := by
      split
      · exact tickR_ok hr
      · exact hr
    generalize (if a = .wait then tickR r else r) = here at *
    cases hs : m.s with
    | no =>
      unfold Snd.v
      (repeat' (first | array_get_dec | array_mem_dec))
    | to w l =>
      have hq := e_sent k here ((meanAt g cs (m.p + 1).toNat)[i]?.getD 0) l hh
      have hd := dget_idx w i
      unfold Snd.v idxV
      by_cases hiw : i ∈ w
      · have hd' : (dget (idxD w) (.inl (i : Int))).isSome = true := by rw [hd]; exact decide_eq_true hiw
        (repeat' (first | array_get_dec | (refine ix_of (show item D.kds (meansV g cs) _ = _ from hm) ?_) | (refine ix_of (show item D.kds (lvV _) _ = _ from hl) ?_) | refine fd_of f_sc_means g cs bk ?_ | refine me_of f_sc_means g cs bk ?_ | array_mem_dec))
        simp [hiw]
      · have hd' : (dget (idxD w) (.inl (i : Int))).isSome = false := by rw [hd]; exact decide_eq_false hiw
        (repeat' (first | array_get_dec | refine fd_of f_sc_means g cs bk ?_ | refine me_of f_sc_means g cs bk ?_ | array_mem_dec))
        simp [hiw]
theorem sorted_strs (l : List Str) (h : l.length < 64) : blt 11 [.lst (l.map .str)] = some (.o (.lst ((srtS l).map .str))) := by
  simp only [blt, bSorted, strsOf_map, h, if_true]
theorem dput_table {h : List (Str × Int)} {c : Str} {l : Int} : dput (((h.filter fun m => !(m.1 == c)).map fun m => (.inr m.1, .int m.2)) : List (L2.Key × Val)) (.inr c) (.int l) = mvD (h.filter (fun m => !(m.1 == c)) ++ [(c, l)]) := by
  rw [dput_new]
  · unfold mvD
    rw [List.map_append]
    rfl
  · intro hm
    rw [List.map_map] at hm
    obtain ⟨m, hm, e⟩ := List.mem_map.mp hm
    have e : m.1 = c := Sum.inr.inj e
    have := (List.mem_filter.mp hm).2
    rw [e] at this
    simp at this
/-- the table told in order -/
theorem held_lc (t : List (Str × Int)) (ht : (t.map (·.1)).Nodup) (hl : t.length ≤ 20) {A B : Val} {F : FT} {Q : RV → Eng.Env → Prop}
    (q : Q (.o (.lst (((srtS (t.map (·.1))).map fun s => (s, (lookM t s).getD 0)).map mvV))) [.val A, .val B, .own (.dct (mvD t)), .un, .un]) :
    WE D F (.lc (.tup (.cons (.var 3) (.cons (.ix (.var 2) (.var 3)) .nil))) [3] (.seq (.blt 11 (.cons (.blt 2 (.cons (.var 2) .nil)) .nil))) .nil [3]) [.val A, .val B, .own (.dct (mvD t)), .un, .un] Q := by
  have hb : blt 2 [.dct (mvD t)] = some (.o (.lst ((t.map (·.1)).map .str))) := by
    unfold mvD
    simp only [blt, bLst, List.map_map]
    rfl
  have hs := sorted_strs (t.map (·.1)) (by rw [List.length_map]; omega)
  refine we_lcD (srtS (t.map (·.1))) Val.str (fun _ => true) (fun s => mvV (s, (lookM t s).getD 0)) ?_
  (repeat' (first | array_get_dec | array_mem_dec))
  refine ⟨rfl, cap_of (by rw [len_srtS, List.length_map]; omega), ⟨_, rfl, fun n hn => ?_⟩, ?_⟩
  · rw [mem_srtS] at hn
    obtain ⟨i, e, _⟩ := lookM_mem hn
    have hd := dget_mvD t n
    rw [e] at hd
    have hit : item D.kds (.dct (mvD t)) (.str n) = some (.int i) := by
      simp only [item, keyOf, hd]; rfl
    rw [e]
    refine ⟨_, tg_one (by (repeat (first | exact put_z rfl | exact put_z (by with_reducible assumption) | apply put_s))), ?_⟩
    (repeat' (first | array_get_dec | array_mem_dec))
    refine ⟨rfl, ?_⟩
    (repeat' (first | array_get_dec | array_mem_dec))
  · rw [filter_true]
    rw [List.map_map] at q
    exact q
theorem e_held_hold (hg : g.Ok) (h : List (Str × Int)) (ho : HOk g h) (c : Str) (l : Int) (ha : c ∈ g.chs ∧ 0 ≤ l ∧ l ≤ g.top) : Fk D (k+1) i_held_behind [.val (.tup (h.map mvV)), .val (AC.hold c l).v] = some (.v (.tup ((heldS h (.hold c l)).map mvV)), [.tup (h.map mvV), (AC.hold c l).v]) := by
  refine wc_eq ?_
  refine wc_fn (F_held_behind _ _) rfl (by simp only [startE, slotOf, List.map, List.length, List.replicate, List.cons_append, List.nil_append, List.length_cons, List.length_nil, Nat.reduceAdd, Nat.reduceSub]; rfl) ?_; show WB D _ B_held_behind _ _ _ _ _; unfold B_held_behind
  have hl := ho.len hg
  have hfl := List.length_filter_le (fun m => !(m.1 == c)) h
  obtain ⟨_, t2⟩ := tableS_ok ho (a := .hold c l) ha
  unfold AC.v
  (repeat' (first | array_get_dec | array_mem_dec))
  refine we_dcD h mvV (fun m => !(m.1 == c)) (fun m => .inr m.1) (fun m => .int m.2) ?_
  (repeat' (first | array_get_dec | array_mem_dec))
  refine ⟨rfl, cap_of (by omega), ⟨_, rfl, fun m hm => ?_⟩, ?_⟩
  · refine ⟨_, tg_two (by (repeat (first | exact put_z rfl | exact put_z (by with_reducible assumption) | apply put_s))) (by (repeat (first | exact put_z rfl | exact put_z (by with_reducible assumption) | apply put_s))), ?_⟩
    (repeat' (first | array_get_dec | array_mem_dec))
    refine ⟨rfl, ?_⟩
    (repeat' (first | array_get_dec | array_mem_dec))
    refine ⟨rfl, ?_⟩
    (repeat' (first | array_get_dec | array_mem_dec))
  · rw [foldl_dput0 _ _ _ ((keys_ne ho.asc).filter _)]
    have hset : setItem (.dct ((h.filter fun m => !(m.1 == c)).map fun m => (.inr m.1, .int m.2))) (.str c) (.int l) = some (.dct (mvD (tableS h (.hold c l)))) := by
      simp only [Eng.setItem, keyOf]
      rw [if_pos (by rw [List.length_map]; exact cap_lt (by omega)), dput_table]
      rfl
    (repeat' (first | array_get_dec | (refine sm_of hset ?_) | (refine held_lc _ t2 (by unfold tableS; rw [List.length_append]; simp; omega) ?_) | array_mem_dec))
theorem e_held_free (hg : g.Ok) (h : List (Str × Int)) (ho : HOk g h) (c : Str) (ha : c ∈ g.chs) : Fk D (k+1) i_held_behind [.val (.tup (h.map mvV)), .val (AC.fre c).v] = some (.v (.tup ((heldS h (.fre c)).map mvV)), [.tup (h.map mvV), (AC.fre c).v]) := by
  refine wc_eq ?_
  refine wc_fn (F_held_behind _ _) rfl (by simp only [startE, slotOf, List.map, List.length, List.replicate, List.cons_append, List.nil_append, List.length_cons, List.length_nil, Nat.reduceAdd, Nat.reduceSub]; rfl) ?_; show WB D _ B_held_behind _ _ _ _ _; unfold B_held_behind
  have hl := ho.len hg
  have hfl := List.length_filter_le (fun m => !(m.1 == c)) h
  obtain ⟨_, t2⟩ := tableS_ok ho (a := .fre c) ha
  unfold AC.v
  (repeat' (first | array_get_dec | array_mem_dec))
  refine we_dcD h mvV (fun m => !(m.1 == c)) (fun m => .inr m.1) (fun m => .int m.2) ?_
  (repeat' (first | array_get_dec | array_mem_dec))
  refine ⟨rfl, cap_of (by omega), ⟨_, rfl, fun m hm => ?_⟩, ?_⟩
  · refine ⟨_, tg_two (by (repeat (first | exact put_z rfl | exact put_z (by with_reducible assumption) | apply put_s))) (by (repeat (first | exact put_z rfl | exact put_z (by with_reducible assumption) | apply put_s))), ?_⟩
    (repeat' (first | array_get_dec | array_mem_dec))
    refine ⟨rfl, ?_⟩
    (repeat' (first | array_get_dec | array_mem_dec))
    refine ⟨rfl, ?_⟩
    (repeat' (first | array_get_dec | array_mem_dec))
  · rw [foldl_dput0 _ _ _ ((keys_ne ho.asc).filter _)]
    (repeat' (first | array_get_dec | (refine held_lc (tableS h (.fre c)) t2 (by show (h.filter (fun m => !(m.1 == c))).length ≤ 20; omega) ?_) | array_mem_dec))
theorem e_behind (hg : g.Ok) (hc : LOk g cs) (s : SG) (hs : s.Ok g cs) (a : AC) (ha : a.Ok g) (hb0 : 0 ≤ bk) (hb5 : bk ≤ 5) : Fk D (k+5) i_Score_behind [.val (scV g cs bk), .val s.v, .val a.v] = some (.v (stepS g cs bk s a).v, [scV g cs bk, s.v, a.v]) := by
  have hmv := e_moved k g cs bk s.place s.due a hs.p0 (by have := hs.d; omega)
  have other : (∀ c l, a ≠ .hold c l) → (∀ c, a ≠ .fre c) → Fk D (k+5) i_Score_behind [.val (scV g cs bk), .val s.v, .val a.v] = some (.v (SG.v ⟨(s.runs.zipIdx 0).map fun p => runB g cs a (moveS g cs bk s.place s.due a) p.2 p.1, (moveS g cs bk s.place s.due a).p, (moveS g cs bk s.place s.due a).d, s.held⟩), [scV g cs bk, s.v, a.v]) := by
    intro n1 n2
    have hm := moveS_ok hc hb0 hb5 hs.p0 hs.p1 hs.d a
    have hne : ∃ w rest, a.v = .tup (.str w :: rest) ∧ cmpo D.kds .In (.str w) (.tup [.str (Sl [104, 111, 108, 100]), .str (Sl [102, 114, 101, 101])]) = some false := by
      cases a with
      | wait => exact ⟨_, _, rfl, rfl⟩
      | go => exact ⟨_, _, rfl, rfl⟩
      | bck => exact ⟨_, _, rfl, rfl⟩
      | jump n => exact ⟨_, _, rfl, rfl⟩
      | hold c l => exact absurd rfl (n1 c l)
      | fre c => exact absurd rfl (n2 c)
    obtain ⟨w, rest, ev, hw⟩ := hne
    have l8 := hg.l8
    have nr := hs.nr
    have hq : ∀ p ∈ s.runs.zipIdx 0, Fk D (k+4) i_Score_run_behind [.val (scV g cs bk), .val (.int (p.2 : Int)), .val p.1.v, .val (.tup (.str w :: rest)), .val (.int (moveS g cs bk s.place s.due a).p), .val (moveS g cs bk s.place s.due a).s.v] = some (.v (runB g cs a (moveS g cs bk s.place s.due a) p.2 p.1).v, [scV g cs bk, .int (p.2 : Int), p.1.v, .tup (.str w :: rest), .int (moveS g cs bk s.place s.due a).p, (moveS g cs bk s.place s.due a).s.v]) := by
      intro p hp
      obtain ⟨i, hi, e⟩ := List.getElem_of_mem hp
      have e3 : (s.runs.zipIdx 0)[i]? = some p := by rw [List.getElem?_eq_getElem hi, e]
      obtain ⟨e4, e5⟩ := getElem?_zipIdx e3
      have hlt : p.2 < g.chs.length := by
        rw [e5]
        simp at hi
        omega
      have := e_run_behind (k+1) g cs bk hg a (moveS g cs bk s.place s.due a) p.2 p.1 (hs.ro _ (List.mem_of_getElem? e4)) hlt hm.p0 hm.p1
      rw [ev] at this
      exact this
    rw [ev] at hmv
    generalize moveS g cs bk s.place s.due a = m at *
    refine wc_eq ?_
    refine wc_fn (F_Score_behind _ _) rfl (by simp only [startE, slotOf, List.map, List.length, List.replicate, List.cons_append, List.nil_append, List.length_cons, List.length_nil, Nat.reduceAdd, Nat.reduceSub]; rfl) ?_; show WB D _ B_Score_behind _ _ _ _ _; unfold B_Score_behind
    rw [ev]
    unfold SG.v
    unfold Mv.v at hmv
    (repeat' (first | array_get_dec | refine fd_of m_sc_moved g cs bk ?_ | refine me_of m_sc_moved g cs bk ?_ | array_mem_dec))
    refine we_lcD (s.runs.zipIdx 0) (fun p => .tup [.int (p.2 : Int), p.1.v]) (fun _ => true) (fun p => (runB g cs a m p.2 p.1).v) ?_
    (repeat' (first | array_get_dec | array_mem_dec))
    refine ⟨enumV_map _ _ _, cap_of (by simp; omega), ⟨_, rfl, fun p hp => ?_⟩, ?_⟩
    · have hqp := hq p hp
      refine ⟨_, tg_two (by (repeat (first | exact put_z rfl | exact put_z (by with_reducible assumption) | apply put_s))) (by (repeat (first | exact put_z rfl | exact put_z (by with_reducible assumption) | apply put_s))), ?_⟩
      (repeat' (first | array_get_dec | refine fd_of m_sc_run_behind g cs bk ?_ | refine me_of m_sc_run_behind g cs bk ?_ | array_mem_dec))
      refine ⟨rfl, ?_⟩
      (repeat' (first | array_get_dec | refine fd_of m_sc_run_behind g cs bk ?_ | refine me_of m_sc_run_behind g cs bk ?_ | array_mem_dec))
    · rw [filter_true]
      (repeat' (first | array_get_dec | array_mem_dec))
      rw [List.map_map]
      exact ⟨rfl, rfl⟩
  cases a with
  | hold c l =>
    have hq := e_held_hold (k+3) g hg s.held hs.h c l ha
    refine wc_eq ?_
    refine wc_fn (F_Score_behind _ _) rfl (by simp only [startE, slotOf, List.map, List.length, List.replicate, List.cons_append, List.nil_append, List.length_cons, List.length_nil, Nat.reduceAdd, Nat.reduceSub]; rfl) ?_; show WB D _ B_Score_behind _ _ _ _ _; unfold B_Score_behind
    unfold SG.v AC.v at *
    (repeat' (first | array_get_dec | array_mem_dec))
  | fre c =>
    have hq := e_held_free (k+3) g hg s.held hs.h c ha
    refine wc_eq ?_
    refine wc_fn (F_Score_behind _ _) rfl (by simp only [startE, slotOf, List.map, List.length, List.replicate, List.cons_append, List.nil_append, List.length_cons, List.length_nil, Nat.reduceAdd, Nat.reduceSub]; rfl) ?_; show WB D _ B_Score_behind _ _ _ _ _; unfold B_Score_behind
    unfold SG.v AC.v at *
    (repeat' (first | array_get_dec | array_mem_dec))
  | go => exact other (by simp) (by simp)
  | bck => exact other (by simp) (by simp)
  | wait => exact other (by simp) (by simp)
  | jump n => exact other (by simp) (by simp)
end
end Law
end
section
set_option Elab.async false
set_option linter.all false
set_option maxRecDepth 100000
set_option maxHeartbeats 4000000
set_option hygiene false
local macro_rules | `(tactic| array_get_dec) => `(tactic| first | refine Eng.wb_cons ?_ | refine Eng.ws_asg ?_ | refine Eng.ws_ret ?_ | refine Eng.ws_ife ?_ | refine Eng.ws_asgT ?_ | refine Eng.ws_par ?_ | refine Eng.ws_exp ?_ | refine Eng.wb_nil ?_ | refine Eng.ws_pass ?_ | refine Eng.ws_retN ?_ | refine Eng.ws_subS ?_ | refine Eng.ws_fldS ?_ | refine Eng.ws_app rfl ?_ | refine Eng.ws_brk ?_ | refine Eng.ws_cont ?_ | refine Eng.wv_of ?_ | refine Eng.wn_of ?_ | refine Eng.wt_of ?_ | refine Eng.we_var rfl ?_ | refine Eng.lk_of rfl ?_ | refine Eng.we_lit ?_ | refine Eng.fzw_v ?_ | refine Eng.fzw_val rfl ?_ | refine Eng.fzw_o ?_ | (apply Eng.fzw_own rfl; · (repeat (first | exact Eng.set_z | apply Eng.set_s))) | refine Eng.wf_cons ?_ | refine Eng.wf_nil ?_ | refine Eng.wa_cons ?_ | refine Eng.wa_nil ?_ | refine Eng.we_tup ?_ | refine Eng.we_ix ?_ | refine Eng.we_bin ?_ | refine Eng.we_cmp ?_ | refine Eng.we_fld ?_ | refine Eng.we_call ?_ | refine Eng.we_meth ?_ | refine Eng.we_blt ?_ | refine Eng.we_lst ?_ | refine Eng.we_ife ?_ | refine Eng.we_and2 ?_ | refine Eng.we_or2 ?_ | refine Eng.we_not ?_ | refine Eng.we_neg ?_ | refine Eng.we_isB ?_ | refine Eng.we_isC ?_ | refine Eng.we_chn ?_ | refine Eng.we_slc ?_ | refine Eng.we_dget1 ?_ | refine Eng.we_dget2 ?_ | refine Eng.isd_of rfl ?_ | refine Eng.we_dsp ?_ | refine Eng.wd_cons ?_ | refine Eng.wd_nil ?_ | refine Eng.wo_no ?_ | refine Eng.wo_so ?_ | refine Eng.wts_nil ?_ | refine Eng.wts_one ?_ | refine Eng.wi_seq ?_ | refine Eng.wi_rng1 ?_ | refine Eng.wi_rng2 ?_ | refine Eng.wi_enum ?_ | refine Eng.wi_zip ?_ | refine Eng.bo_addI ?_ | refine Eng.bo_subI ?_ | refine Eng.cm_ltI ?_ | refine Eng.cm_leI ?_ | refine Eng.cm_gtI ?_ | refine Eng.cm_geI ?_ | refine Eng.cm_eqI ?_ | refine Eng.cm_neI ?_ | refine Eng.cm_eqS ?_ | refine Eng.cm_neS ?_ | refine Eng.cm_isN ?_ | refine Eng.cm_isnotN ?_ | refine Eng.cm_inD rfl ?_ | refine Eng.cm_ninD rfl ?_ | refine Eng.cm_inTS ?_ | refine Eng.cm_inLS ?_ | refine Eng.cm_ninTS ?_ | refine Eng.cm_ninLS ?_ | refine Eng.ix_t0 ?_ | refine Eng.ix_t1 ?_ | refine Eng.ix_t2 ?_ | refine Eng.ix_t3 ?_ | refine Eng.ix_t4 ?_ | refine Eng.ix_l0 ?_ | refine Eng.ix_l1 ?_ | refine Eng.ix_l2 ?_ | refine Eng.ix_T (by with_reducible assumption) ?_ | refine Eng.ix_L (by with_reducible assumption) ?_ | refine Eng.in_of ?_ | refine Eng.tupn_of rfl ?_ | refine Eng.hd_of ?_ | refine Eng.dct_of ?_ | refine Eng.bo_mulI (by first | exact Eng.small_l (by first | decide | with_reducible assumption) | exact Eng.small_r (by first | decide | with_reducible assumption) | exact Eng.small_r (Eng.small_of' (by omega) (by omega)) | exact Eng.small_l (Eng.small_of' (by omega) (by omega))) ?_ | refine Eng.bo_fdiv (by first | decide | with_reducible assumption | exact Eng.nat31_of (by omega) (by omega)) ?_ | refine Eng.bo_mod (by first | decide | omega) ?_ | refine Eng.bo_addT (by first | with_reducible assumption | decide) ?_ | refine Eng.bo_addL (by first | with_reducible assumption | decide) ?_ | refine Eng.bo_addS (by first | with_reducible assumption | decide) ?_ | refine Eng.bo_of (by with_reducible assumption) ?_ | refine Eng.cm_of (by with_reducible assumption) ?_ | refine Eng.ix_of (by with_reducible assumption) ?_ | refine Eng.sl_of (by with_reducible assumption) ?_ | refine Eng.bl_of (by with_reducible assumption) ?_ | refine Eng.bl_divmod (by first | decide | with_reducible assumption | exact Eng.nat31_of (by omega) (by omega)) ?_ | refine Eng.fd_of (by with_reducible assumption) ?_ | refine Eng.me_of (by with_reducible assumption) ?_ | refine Eng.call_plain rfl rfl ?_ | refine Eng.call_well rfl (fun _ => rfl) ?_ | refine Eng.set_l0 ?_ | refine Eng.set_l1 ?_ | refine Eng.set_l2 ?_ | (apply Eng.stw_v; · (repeat (first | exact Eng.put_z rfl | exact Eng.put_z (by with_reducible assumption) | apply Eng.put_s))) | (apply Eng.stw_o; · (repeat (first | exact Eng.put_z rfl | exact Eng.put_z (by with_reducible assumption) | apply Eng.put_s))) | (apply Eng.stw_val rfl; · (repeat (first | exact Eng.put_z rfl | exact Eng.put_z (by with_reducible assumption) | apply Eng.put_s))) | (apply Eng.stw_own rfl; · (repeat (first | exact Eng.set_z | apply Eng.set_s)); · (repeat (first | exact Eng.put_z rfl | exact Eng.put_z (by with_reducible assumption) | apply Eng.put_s))) | refine Eng.stws_nil ?_ | (apply Eng.stws_cons; · (repeat (first | exact Eng.put_z rfl | exact Eng.put_z (by with_reducible assumption) | apply Eng.put_s))) | refine Eng.tgw_nil ?_ | (apply Eng.tgw_nm; · (repeat (first | exact Eng.put_z rfl | exact Eng.put_z (by with_reducible assumption) | apply Eng.put_s))) | refine Eng.tgw_sub ?_ | (apply Eng.wrw_own rfl; · (repeat (first | exact Eng.set_z | apply Eng.set_s))) | (apply Eng.wrw_lent rfl; · (repeat (first | exact Eng.set_z | apply Eng.set_s))) | refine Eng.mvw_v ?_ | refine Eng.mvw_o ?_ | refine Eng.mvw_val rfl ?_ | (apply Eng.mvw_own rfl; · (repeat (first | exact Eng.set_z | apply Eng.set_s))))
local macro_rules | `(tactic| array_mem_dec) => `(tactic| first | refine Eng.fd_of rfl ?_ | refine Eng.me_of rfl ?_ | refine Eng.wc_of (by with_reducible assumption) ?_ | refine Eng.sm_of rfl ?_ | refine Eng.sm_of (by with_reducible assumption) ?_ | refine Eng.tr_of rfl ?_ | refine Eng.tr_of (by with_reducible assumption) ?_ | refine Eng.bl_of rfl ?_ | refine Eng.sl_of rfl ?_ | refine Eng.bo_of rfl ?_ | refine Eng.cm_of rfl ?_ | refine Eng.ix_of rfl ?_ | refine Eng.outs_of rfl ?_ | refine Eng.ifb_t (by first | rfl | with_reducible assumption | (simp only [Bool.not_eq_true']; with_reducible assumption) | (simp only [decide_eq_true_eq, beq_iff_eq, Bool.not_eq_true', bne_iff_ne, decide_eq_false_iff_not, beq_eq_false_iff_ne, ne_eq]; omega) | decide) ?_ | refine Eng.ifb_f (by first | rfl | with_reducible assumption | (simp only [Bool.not_eq_false']; with_reducible assumption) | (simp only [decide_eq_false_iff_not, beq_eq_false_iff_ne, Bool.not_eq_false', ne_eq, beq_iff_eq, decide_eq_true_eq]; omega) | decide) ?_ | exact ⟨rfl, rfl⟩ | exact rfl | (refine Eng.ifb_s (fun hc => ?_) (fun hc => ?_) <;> (try simp only [decide_eq_true_eq, decide_eq_false_iff_not, beq_iff_eq, beq_eq_false_iff_ne, ne_eq, Bool.not_eq_true', Bool.not_eq_false', Int.not_lt, Int.not_le] at hc)))
namespace Law
open Eng PySem
section
variable (k : Nat) (g : RG) (cs : List CU) (bk : Int)
theorem e_first (hg : g.Ok) : Fk D (k+1) i_Score_first [.val (scV g cs bk)] = some (.v (firstS g).v, [scV g cs bk]) := by
  refine wc_eq ?_
  refine wc_fn (F_Score_first _ _) rfl (by simp only [startE, slotOf, List.map, List.length, List.replicate, List.cons_append, List.nil_append, List.length_cons, List.length_nil, Nat.reduceAdd, Nat.reduceSub]; rfl) ?_; show WB D _ B_Score_first _ _ _ _ _; unfold B_Score_first
  have l8 := hg.l8
  have hb := binop_mulT (v := (restR 0).v) (k := ((g.chs.map Val.str).length : Int)) (by omega) (by rw [List.length_map]; omega)
  have e : List.replicate (((g.chs.map Val.str).length : Int)).toNat (restR 0).v = (firstS g).runs.map Rn.v := by
    unfold firstS
    simp
  rw [e] at hb
  unfold Rn.v restR at hb
  (repeat' (first | array_get_dec | refine fd_of f_sc_channels g cs bk ?_ | refine me_of f_sc_channels g cs bk ?_ | array_mem_dec))
theorem stagesS_len : ∀ (as : List AC) (s : SG), (stagesS g cs bk s as).length = as.length + 1
  | [], _ => rfl
  | a :: as, s => by
    show (s :: stagesS g cs bk (stepS g cs bk s a) as).length = _
    rw [List.length_cons, stagesS_len as]
    rfl
def lastS (s : SG) (as : List AC) : SG := as.foldl (stepS g cs bk) s
theorem stagesS_take : ∀ (as : List AC) (s : SG) (j : Nat), j ≤ as.length → stagesS g cs bk s as = (stagesS g cs bk s (as.take j)).dropLast ++ stagesS g cs bk (lastS g cs bk s (as.take j)) (as.drop j)
  | as, s, 0, _ => by simp [stagesS, lastS]
  | [], s, j + 1, h => by simp at h
  | a :: as, s, j + 1, h => by
    have ih := stagesS_take as (stepS g cs bk s a) j (by simpa using h)
    have hne : stagesS g cs bk (stepS g cs bk s a) (as.take j) ≠ [] := by
      cases as.take j <;> simp [stagesS]
    show s :: stagesS g cs bk (stepS g cs bk s a) as = (s :: stagesS g cs bk (stepS g cs bk s a) (as.take j)).dropLast ++ _
    rw [List.dropLast_cons_of_ne_nil hne, List.cons_append]
    congr 1
theorem stagesS_snoc : ∀ (as : List AC) (s : SG) (a : AC), stagesS g cs bk s (as ++ [a]) = stagesS g cs bk s as ++ [stepS g cs bk (lastS g cs bk s as) a]
  | [], s, a => rfl
  | b :: as, s, a => by
    show s :: stagesS g cs bk (stepS g cs bk s b) (as ++ [a]) = s :: stagesS g cs bk (stepS g cs bk s b) as ++ _
    rw [stagesS_snoc as]
    rfl
theorem stagesS_last : ∀ (as : List AC) (s : SG), ∃ pre, stagesS g cs bk s as = pre ++ [lastS g cs bk s as]
  | [], s => ⟨[], rfl⟩
  | a :: as, s => by
    obtain ⟨pre, e⟩ := stagesS_last as (stepS g cs bk s a)
    exact ⟨s :: pre, congrArg (List.cons s) e⟩
theorem lastS_snoc (as : List AC) (s : SG) (a : AC) : lastS g cs bk s (as ++ [a]) = stepS g cs bk (lastS g cs bk s as) a := by
  unfold lastS
  rw [List.foldl_append]
  rfl
def AsOk (as : List AC) : Prop := ∀ a ∈ as, a.Ok g
theorem lastS_ok (hg : g.Ok) (hc : LOk g cs) (hb0 : 0 ≤ bk) (hb5 : bk ≤ 5) : ∀ (as : List AC) (s : SG), s.Ok g cs → AsOk g as → (lastS g cs bk s as).Ok g cs
  | [], s, hs, _ => hs
  | a :: as, s, hs, ha => lastS_ok hg hc hb0 hb5 as _ (stepS_ok hg hc hb0 hb5 hs (ha a (by simp))) (fun x hx => ha x (by simp [hx]))
theorem stagesS_ok (hg : g.Ok) (hc : LOk g cs) (hb0 : 0 ≤ bk) (hb5 : bk ≤ 5) : ∀ (as : List AC) (s : SG), s.Ok g cs → AsOk g as → ∀ t ∈ stagesS g cs bk s as, t.Ok g cs
  | [], s, hs, _, t, ht => by
    have : t = s := by simpa [stagesS] using ht
    rw [this]; exact hs
  | a :: as, s, hs, ha, t, ht => by
    rcases List.mem_cons.mp ht with rfl | ht
    · exact hs
    · exact stagesS_ok hg hc hb0 hb5 as _ (stepS_ok hg hc hb0 hb5 hs (ha a (by simp))) (fun x hx => ha x (by simp [hx])) t ht
theorem atI_last_map {α : Type} (f : α → Val) {xs pre : List α} {x : α} (h : xs = pre ++ [x]) : L2.atI (xs.map f) (-1) = some (f x) := by
  rw [h, List.map_append]
  exact atI_last _ _
theorem e_stages (hg : g.Ok) (hc : LOk g cs) (hb0 : 0 ≤ bk) (hb5 : bk ≤ 5) (as : List AC) (ha : AsOk g as) (hl : as.length ≤ 1000) : Fk D (k+6) i_Score_stages [.val (scV g cs bk), .val (.tup (as.map AC.v))] = some (.o (.lst ((stagesS g cs bk (firstS g) as).map SG.v)), [scV g cs bk, .tup (as.map AC.v)]) := by
  refine wc_eq ?_
  refine wc_fn (F_Score_stages _ _) rfl (by simp only [startE, slotOf, List.map, List.length, List.replicate, List.cons_append, List.nil_append, List.length_cons, List.length_nil, Nat.reduceAdd, Nat.reduceSub]; rfl) ?_; show WB D _ B_Score_stages _ _ _ _ _; unfold B_Score_stages
  have hf := e_first (k+4) g cs bk hg
  (repeat' (first | array_get_dec | refine fd_of m_sc_first g cs bk ?_ | refine me_of m_sc_first g cs bk ?_ | array_mem_dec))
  refine ws_forF (fun j ε => ∃ s, ε = [.val (scV g cs bk), .val (.tup (as.map AC.v)), .own (.lst ((stagesS g cs bk (firstS g) (as.take j)).map SG.v)), s] ∧ free s = true) ?_
  (repeat' (first | array_get_dec | array_mem_dec))
  refine ⟨rfl, ⟨_, rfl, rfl⟩, ?_, ?_⟩
  · rintro j x ε2 hx ⟨s, rfl, f1⟩
    rw [List.getElem?_map] at hx
    cases e : as[j]? with
    | none => rw [e] at hx; cases hx
    | some a =>
      rw [e] at hx
      cases hx
      have hak := ha a (List.mem_of_getElem? e)
      obtain ⟨pre, hpre⟩ := stagesS_last g cs bk (as.take j) (firstS g)
      have hat := atI_last_map SG.v hpre
      have hok := lastS_ok g cs bk hg hc hb0 hb5 (as.take j) (firstS g) firstS_ok (fun x hx => ha x (List.mem_of_mem_take hx))
      have hq := e_behind k g cs bk hg hc _ hok a hak hb0 hb5
      have hsn := stagesS_snoc g cs bk (as.take j) (firstS g) a
      have htk : as.take j ++ [a] = as.take (j + 1) := by
        rw [List.take_succ, e]; rfl
      rw [htk] at hsn
      have hcp : ((stagesS g cs bk (firstS g) (as.take j)).map SG.v).length < cap := by
        rw [List.length_map, stagesS_len, List.length_take]
        exact cap_lt (by omega)
      refine ⟨_, tg_one (by (repeat (first | exact put_z rfl | exact put_z (by with_reducible assumption) | apply put_s))), ?_⟩
      (repeat' (first | array_get_dec | refine fd_of m_sc_behind g cs bk ?_ | refine me_of m_sc_behind g cs bk ?_ | array_mem_dec))
      refine ⟨hcp, ?_⟩
      (repeat' (first | array_get_dec | array_mem_dec))
      refine ⟨.val a.v, ?_, rfl⟩
      rw [hsn, List.map_append]
      rfl
  · rintro ε2 ⟨s, rfl, f1⟩
    rw [List.length_map, List.take_length]
    (repeat' (first | array_get_dec | array_mem_dec))
theorem e_look (hg : g.Ok) (s : SG) (hs : s.Ok g cs) : Fk D (k+2) i_Score_look [.val (scV g cs bk), .val s.v] = some (.v (lvV (lookS g s)), [scV g cs bk, s.v]) := by
  refine wc_eq ?_
  refine wc_fn (F_Score_look _ _) rfl (by simp only [startE, slotOf, List.map, List.length, List.replicate, List.cons_append, List.nil_append, List.length_cons, List.length_nil, Nat.reduceAdd, Nat.reduceSub]; rfl) ?_; show WB D _ B_Score_look _ _ _ _ _; unfold B_Score_look
  have l8 := hg.l8
  have hl := hs.h.len hg
  unfold SG.v
  (repeat' (first | array_get_dec | array_mem_dec))
  refine we_dcD s.held mvV (fun _ => true) (fun m => .inr m.1) (fun m => .int m.2) ?_
  (repeat' (first | array_get_dec | array_mem_dec))
  refine ⟨rfl, cap_of (by omega), ⟨_, rfl, fun m hm => ?_⟩, ?_⟩
  · refine ⟨_, tg_two (by (repeat (first | exact put_z rfl | exact put_z (by with_reducible assumption) | apply put_s))) (by (repeat (first | exact put_z rfl | exact put_z (by with_reducible assumption) | apply put_s))), ?_⟩
    (repeat' (first | array_get_dec | array_mem_dec))
    refine ⟨rfl, ?_⟩
    (repeat' (first | array_get_dec | array_mem_dec))
    refine ⟨rfl, ?_⟩
    (repeat' (first | array_get_dec | array_mem_dec))
  · rw [filter_true, foldl_dput0 _ _ _ (keys_ne hs.h.asc)]
    (repeat' (first | array_get_dec | array_mem_dec))
    refine we_lcD (g.chs.zip s.runs) (fun p => .tup [.str p.1, p.2.v]) (fun _ => true) (fun p => .int ((lookM s.held p.1).getD (levR p.2))) ?_
    (repeat' (first | array_get_dec | refine fd_of f_sc_channels g cs bk ?_ | refine me_of f_sc_channels g cs bk ?_ | array_mem_dec))
    refine ⟨zipV_map _ _ _ _, cap_of (by simp; omega), ⟨_, rfl, fun p hp => ?_⟩, ?_⟩
    · have hq := e_level_of k p.2 (hs.ro _ (List.of_mem_zip hp).2)
      refine ⟨_, tg_two (by (repeat (first | exact put_z rfl | exact put_z (by with_reducible assumption) | apply put_s))) (by (repeat (first | exact put_z rfl | exact put_z (by with_reducible assumption) | apply put_s))), ?_⟩
      (repeat' (first | array_get_dec | array_mem_dec))
      refine ⟨rfl, ?_⟩
      (repeat' (first | array_get_dec | array_mem_dec))
      have e := dget_mvD s.held p.1
      unfold mvD at e
      rw [e]
      cases lookM s.held p.1 <;> exact ⟨rfl, rfl⟩
    · rw [filter_true]
      (repeat' (first | array_get_dec | array_mem_dec))
      all_goals (unfold lvV lookS; rw [List.map_map]; exact ⟨rfl, rfl⟩)
end
end Law
end
section
set_option Elab.async false
set_option linter.all false
set_option maxRecDepth 100000
set_option maxHeartbeats 4000000
set_option hygiene false
local macro_rules | `(tactic| array_get_dec) => `(tactic| first | refine Eng.wb_cons ?_ | refine Eng.ws_asg ?_ | refine Eng.ws_ret ?_ | refine Eng.ws_ife ?_ | refine Eng.ws_asgT ?_ | refine Eng.ws_par ?_ | refine Eng.ws_exp ?_ | refine Eng.wb_nil ?_ | refine Eng.ws_pass ?_ | refine Eng.ws_retN ?_ | refine Eng.ws_subS ?_ | refine Eng.ws_fldS ?_ | refine Eng.ws_app rfl ?_ | refine Eng.ws_brk ?_ | refine Eng.ws_cont ?_ | refine Eng.wv_of ?_ | refine Eng.wn_of ?_ | refine Eng.wt_of ?_ | refine Eng.we_var rfl ?_ | refine Eng.lk_of rfl ?_ | refine Eng.we_lit ?_ | refine Eng.fzw_v ?_ | refine Eng.fzw_val rfl ?_ | refine Eng.fzw_o ?_ | (apply Eng.fzw_own rfl; · (repeat (first | exact Eng.set_z | apply Eng.set_s))) | refine Eng.wf_cons ?_ | refine Eng.wf_nil ?_ | refine Eng.wa_cons ?_ | refine Eng.wa_nil ?_ | refine Eng.we_tup ?_ | refine Eng.we_ix ?_ | refine Eng.we_bin ?_ | refine Eng.we_cmp ?_ | refine Eng.we_fld ?_ | refine Eng.we_call ?_ | refine Eng.we_meth ?_ | refine Eng.we_blt ?_ | refine Eng.we_lst ?_ | refine Eng.we_ife ?_ | refine Eng.we_and2 ?_ | refine Eng.we_or2 ?_ | refine Eng.we_not ?_ | refine Eng.we_neg ?_ | refine Eng.we_isB ?_ | refine Eng.we_isC ?_ | refine Eng.we_chn ?_ | refine Eng.we_slc ?_ | refine Eng.we_dget1 ?_ | refine Eng.we_dget2 ?_ | refine Eng.isd_of rfl ?_ | refine Eng.we_dsp ?_ | refine Eng.wd_cons ?_ | refine Eng.wd_nil ?_ | refine Eng.wo_no ?_ | refine Eng.wo_so ?_ | refine Eng.wts_nil ?_ | refine Eng.wts_one ?_ | refine Eng.wi_seq ?_ | refine Eng.wi_rng1 ?_ | refine Eng.wi_rng2 ?_ | refine Eng.wi_enum ?_ | refine Eng.wi_zip ?_ | refine Eng.bo_addI ?_ | refine Eng.bo_subI ?_ | refine Eng.cm_ltI ?_ | refine Eng.cm_leI ?_ | refine Eng.cm_gtI ?_ | refine Eng.cm_geI ?_ | refine Eng.cm_eqI ?_ | refine Eng.cm_neI ?_ | refine Eng.cm_eqS ?_ | refine Eng.cm_neS ?_ | refine Eng.cm_isN ?_ | refine Eng.cm_isnotN ?_ | refine Eng.cm_inD rfl ?_ | refine Eng.cm_ninD rfl ?_ | refine Eng.cm_inTS ?_ | refine Eng.cm_inLS ?_ | refine Eng.cm_ninTS ?_ | refine Eng.cm_ninLS ?_ | refine Eng.ix_t0 ?_ | refine Eng.ix_t1 ?_ | refine Eng.ix_t2 ?_ | refine Eng.ix_t3 ?_ | refine Eng.ix_t4 ?_ | refine Eng.ix_l0 ?_ | refine Eng.ix_l1 ?_ | refine Eng.ix_l2 ?_ | refine Eng.ix_T (by with_reducible assumption) ?_ | refine Eng.ix_L (by with_reducible assumption) ?_ | refine Eng.in_of ?_ | refine Eng.tupn_of rfl ?_ | refine Eng.hd_of ?_ | refine Eng.dct_of ?_ | refine Eng.bo_mulI (by first | exact Eng.small_l (by first | decide | with_reducible assumption) | exact Eng.small_r (by first | decide | with_reducible assumption) | exact Eng.small_r (Eng.small_of' (by omega) (by omega)) | exact Eng.small_l (Eng.small_of' (by omega) (by omega))) ?_ | refine Eng.bo_fdiv (by first | decide | with_reducible assumption | exact Eng.nat31_of (by omega) (by omega)) ?_ | refine Eng.bo_mod (by first | decide | omega) ?_ | refine Eng.bo_addT (by first | with_reducible assumption | decide) ?_ | refine Eng.bo_addL (by first | with_reducible assumption | decide) ?_ | refine Eng.bo_addS (by first | with_reducible assumption | decide) ?_ | refine Eng.bo_of (by with_reducible assumption) ?_ | refine Eng.cm_of (by with_reducible assumption) ?_ | refine Eng.ix_of (by with_reducible assumption) ?_ | refine Eng.sl_of (by with_reducible assumption) ?_ | refine Eng.bl_of (by with_reducible assumption) ?_ | refine Eng.bl_divmod (by first | decide | with_reducible assumption | exact Eng.nat31_of (by omega) (by omega)) ?_ | refine Eng.fd_of (by with_reducible assumption) ?_ | refine Eng.me_of (by with_reducible assumption) ?_ | refine Eng.call_plain rfl rfl ?_ | refine Eng.call_well rfl (fun _ => rfl) ?_ | refine Eng.set_l0 ?_ | refine Eng.set_l1 ?_ | refine Eng.set_l2 ?_ | (apply Eng.stw_v; · (repeat (first | exact Eng.put_z rfl | exact Eng.put_z (by with_reducible assumption) | apply Eng.put_s))) | (apply Eng.stw_o; · (repeat (first | exact Eng.put_z rfl | exact Eng.put_z (by with_reducible assumption) | apply Eng.put_s))) | (apply Eng.stw_val rfl; · (repeat (first | exact Eng.put_z rfl | exact Eng.put_z (by with_reducible assumption) | apply Eng.put_s))) | (apply Eng.stw_own rfl; · (repeat (first | exact Eng.set_z | apply Eng.set_s)); · (repeat (first | exact Eng.put_z rfl | exact Eng.put_z (by with_reducible assumption) | apply Eng.put_s))) | refine Eng.stws_nil ?_ | (apply Eng.stws_cons; · (repeat (first | exact Eng.put_z rfl | exact Eng.put_z (by with_reducible assumption) | apply Eng.put_s))) | refine Eng.tgw_nil ?_ | (apply Eng.tgw_nm; · (repeat (first | exact Eng.put_z rfl | exact Eng.put_z (by with_reducible assumption) | apply Eng.put_s))) | refine Eng.tgw_sub ?_ | (apply Eng.wrw_own rfl; · (repeat (first | exact Eng.set_z | apply Eng.set_s))) | (apply Eng.wrw_lent rfl; · (repeat (first | exact Eng.set_z | apply Eng.set_s))) | refine Eng.mvw_v ?_ | refine Eng.mvw_o ?_ | refine Eng.mvw_val rfl ?_ | (apply Eng.mvw_own rfl; · (repeat (first | exact Eng.set_z | apply Eng.set_s))))
local macro_rules | `(tactic| array_mem_dec) => `(tactic| first | refine Eng.fd_of rfl ?_ | refine Eng.me_of rfl ?_ | refine Eng.wc_of (by with_reducible assumption) ?_ | refine Eng.sm_of rfl ?_ | refine Eng.sm_of (by with_reducible assumption) ?_ | refine Eng.tr_of rfl ?_ | refine Eng.tr_of (by with_reducible assumption) ?_ | refine Eng.bl_of rfl ?_ | refine Eng.sl_of rfl ?_ | refine Eng.bo_of rfl ?_ | refine Eng.cm_of rfl ?_ | refine Eng.ix_of rfl ?_ | refine Eng.outs_of rfl ?_ | refine Eng.ifb_t (by first | rfl | with_reducible assumption | (simp only [Bool.not_eq_true']; with_reducible assumption) | (simp only [decide_eq_true_eq, beq_iff_eq, Bool.not_eq_true', bne_iff_ne, decide_eq_false_iff_not, beq_eq_false_iff_ne, ne_eq]; omega) | decide) ?_ | refine Eng.ifb_f (by first | rfl | with_reducible assumption | (simp only [Bool.not_eq_false']; with_reducible assumption) | (simp only [decide_eq_false_iff_not, beq_eq_false_iff_ne, Bool.not_eq_false', ne_eq, beq_iff_eq, decide_eq_true_eq]; omega) | decide) ?_ | exact ⟨rfl, rfl⟩ | exact rfl | (refine Eng.ifb_s (fun hc => ?_) (fun hc => ?_) <;> (try simp only [decide_eq_true_eq, decide_eq_false_iff_not, beq_iff_eq, beq_eq_false_iff_ne, ne_eq, Bool.not_eq_true', Bool.not_eq_false', Int.not_lt, Int.not_le] at hc)))
namespace Law
open Eng PySem
section
variable (k : Nat) (g : RG) (cs : List CU) (bk : Int)
theorem e_has_act_size (a : AC) : Fk D (k+1) i_has_act_size [.val a.v] = some (.v (.bl true), [a.v]) := by
  have sz : ∀ (w : Str) (n : Int), (w, Val.int n) ∈ (D.kds[0]?.getD []) → True := fun _ _ _ => trivial
  have h1 : ∀ w, (sget [((Sl [103, 111]), Val.int 1), ((Sl [98, 97, 99, 107]), .int 1), ((Sl [106, 117, 109, 112]), .int 2), ((Sl [104, 111, 108, 100]), .int 3), ((Sl [102, 114, 101, 101]), .int 2), ((Sl [119, 97, 105, 116]), .int 1)] w = sget [((Sl [103, 111]), Val.int 1), ((Sl [98, 97, 99, 107]), .int 1), ((Sl [106, 117, 109, 112]), .int 2), ((Sl [104, 111, 108, 100]), .int 3), ((Sl [102, 114, 101, 101]), .int 2), ((Sl [119, 97, 105, 116]), .int 1)] w) := fun _ => rfl
  refine wc_eq ?_
  refine wc_fn (F_has_act_size _ _) rfl (by simp only [startE, slotOf, List.map, List.length, List.replicate, List.cons_append, List.nil_append, List.length_cons, List.length_nil, Nat.reduceAdd, Nat.reduceSub]; rfl) ?_; show WB D _ B_has_act_size _ _ _ _ _; unfold B_has_act_size
  cases a <;> unfold AC.v <;> (repeat' (first | array_get_dec | array_mem_dec))
theorem e_is_act (hg : g.Ok) (a : AC) (ha : a.Ok g) : Fk D (k+4) i_is_act [.val g.v, .val a.v] = some (.v (.bl true), [g.v, a.v]) := by
  have q := e_has_act_size (k+2) a
  refine wc_eq ?_
  refine wc_fn (F_is_act _ _) rfl (by simp only [startE, slotOf, List.map, List.length, List.replicate, List.cons_append, List.nil_append, List.length_cons, List.length_nil, Nat.reduceAdd, Nat.reduceSub]; rfl) ?_; show WB D _ B_is_act _ _ _ _ _; unfold B_is_act
  cases a with
  | go => unfold AC.v at *; (repeat' (first | array_get_dec | array_mem_dec))
  | bck => unfold AC.v at *; (repeat' (first | array_get_dec | array_mem_dec))
  | wait => unfold AC.v at *; (repeat' (first | array_get_dec | array_mem_dec))
  | jump n =>
    have q2 := e_is_number (k+1) n 1 999 ha.1 ha.2
    unfold AC.v at *; (repeat' (first | array_get_dec | array_mem_dec))
  | hold c l =>
    have q2 := e_is_known (k+2) g c ha.1
    have q3 := e_is_number (k+1) l 0 g.top ha.2.1 ha.2.2
    unfold AC.v at *; (repeat' (first | array_get_dec | refine fd_of f_rig_channels g ?_ | refine me_of f_rig_channels g ?_ | refine fd_of f_rig_top g ?_ | refine me_of f_rig_top g ?_ | array_mem_dec))
  | fre c =>
    have q2 := e_is_known (k+2) g c ha
    unfold AC.v at *; (repeat' (first | array_get_dec | refine fd_of f_rig_channels g ?_ | refine me_of f_rig_channels g ?_ | array_mem_dec))
theorem e_first_wrong_act (hg : g.Ok) (as : List AC) (ha : AsOk g as) (hl : as.length ≤ 60) : Fk D (k+5) i_first_wrong_act [.val g.v, .val (.tup (as.map AC.v))] = some (.v .non, [g.v, .tup (as.map AC.v)]) := by
  refine wc_eq ?_
  refine wc_fn (F_first_wrong_act _ _) rfl (by simp only [startE, slotOf, List.map, List.length, List.replicate, List.cons_append, List.nil_append, List.length_cons, List.length_nil, Nat.reduceAdd, Nat.reduceSub]; rfl) ?_; show WB D _ B_first_wrong_act _ _ _ _ _; unfold B_first_wrong_act
  (repeat' (first | array_get_dec | array_mem_dec))
  refine ws_forF (fun i ε => ∃ s1 s2, ε = [.val g.v, .val (.tup (as.map AC.v)), s1, s2] ∧ free s1 = true ∧ free s2 = true) ?_
  (repeat' (first | array_get_dec | array_mem_dec))
  rw [enumV_map]
  refine ⟨rfl, ⟨_, _, rfl, rfl, rfl⟩, ?_, ?_⟩
  · rintro j x ε2 hx ⟨s1, s2, rfl, f1, f2⟩
    rw [List.getElem?_map] at hx
    cases e : (as.zipIdx 0)[j]? with
    | none => rw [e] at hx; cases hx
    | some p =>
      rw [e] at hx
      cases hx
      obtain ⟨a, i⟩ := p
      obtain ⟨e1, e2⟩ := getElem?_zipIdx e
      have e2 : i = j := e2
      subst e2
      have e1 : as[i]? = some a := e1
      have hi : i < as.length := by
        rcases Nat.lt_or_ge i as.length with g | g
        · exact g
        · rw [List.getElem?_eq_none g] at e1; cases e1
      have hn := e_is_act k g hg a (ha a (List.mem_of_getElem? e1))
      refine ⟨_, tg_two (by (repeat (first | exact put_z rfl | exact put_z (by with_reducible assumption) | apply put_s))) (by (repeat (first | exact put_z rfl | exact put_z (by with_reducible assumption) | apply put_s))), ?_⟩
      (repeat' (first | array_get_dec | array_mem_dec))
      exact ⟨_, _, rfl, rfl, rfl⟩
  · rintro ε2 ⟨s1, s2, rfl, f1, f2⟩
    (repeat' (first | array_get_dec | array_mem_dec))
theorem e_need_acts (hg : g.Ok) (as : List AC) (ha : AsOk g as) (hl : as.length ≤ 60) : Fk D (k+6) i_need_acts [.val g.v, .val (.tup (as.map AC.v))] = some (.v .non, [g.v, .tup (as.map AC.v)]) := by
  refine wc_eq ?_
  refine wc_fn (F_need_acts _ _) rfl (by simp only [startE, slotOf, List.map, List.length, List.replicate, List.cons_append, List.nil_append, List.length_cons, List.length_nil, Nat.reduceAdd, Nat.reduceSub]; rfl) ?_; show WB D _ B_need_acts _ _ _ _ _; unfold B_need_acts
  have q := e_first_wrong_act k g hg as ha hl
  (repeat' (first | array_get_dec | array_mem_dec))
theorem e_need_back (h0 : 0 ≤ bk) (h5 : bk ≤ 5) : Fk D (k+4) i_need_back [.val (.int bk)] = some (.v .non, [.int bk]) := by
  refine wc_eq ?_
  refine wc_fn (F_need_back _ _) rfl (by simp only [startE, slotOf, List.map, List.length, List.replicate, List.cons_append, List.nil_append, List.length_cons, List.length_nil, Nat.reduceAdd, Nat.reduceSub]; rfl) ?_; show WB D _ B_need_back _ _ _ _ _; unfold B_need_back
  have q := e_need_number k bk 0 5 h0 h5
  (repeat' (first | array_get_dec | array_mem_dec))
theorem e_need_list : Fk D (k+1) i_need_list [.val (clV g cs)] = some (.v .non, [clV g cs]) := by
  refine wc_eq ?_
  refine wc_fn (F_need_list _ _) rfl (by simp only [startE, slotOf, List.map, List.length, List.replicate, List.cons_append, List.nil_append, List.length_cons, List.length_nil, Nat.reduceAdd, Nat.reduceSub]; rfl) ?_; show WB D _ B_need_list _ _ _ _ _; unfold B_need_list
  (repeat' (first | array_get_dec | array_mem_dec))
theorem e_need_acted (hg : g.Ok) (h0 : 0 ≤ bk) (h5 : bk ≤ 5) (as : List AC) (ha : AsOk g as) (hl : as.length ≤ 60) : Fk D (k+7) i_need_acted [.val (clV g cs), .val (.int bk), .val (.tup (as.map AC.v))] = some (.v .non, [clV g cs, .int bk, .tup (as.map AC.v)]) := by
  refine wc_eq ?_
  refine wc_fn (F_need_acted _ _) rfl (by simp only [startE, slotOf, List.map, List.length, List.replicate, List.cons_append, List.nil_append, List.length_cons, List.length_nil, Nat.reduceAdd, Nat.reduceSub]; rfl) ?_; show WB D _ B_need_acted _ _ _ _ _; unfold B_need_acted
  have q1 := e_need_list (k+5) g cs
  have q2 := e_need_back (k+2) bk h0 h5
  have q3 := e_need_acts k g hg as ha hl
  (repeat' (first | array_get_dec | refine fd_of f_cl_rig g cs ?_ | refine me_of f_cl_rig g cs ?_ | array_mem_dec))
theorem w_score {k : Nat} {g : RG} {cs : List CU} {bk : Int} (hg : g.Ok) (hc : LOk g cs) {e1 e2 : E} {ε : Eng.Env} {Q : RV → Eng.Env → Prop} (h1 : evE D (Fk D (k+2)) e1 ε = some (.b 0, ε)) (h2 : evE D (Fk D (k+2)) e2 ε = some (.b 1, ε)) (g1 : ε[0]? = some (.val (clV g cs))) (g2 : ε[1]? = some (.val (.int bk))) (q : Q (.v (scV g cs bk)) ε) : WE D (Fk D (k+2)) (.make k_Score (.cons e1 (.cons e2 .nil))) ε Q := by
  refine we_make (C := ⟨i_Score___init__, _, true, _⟩) C_Score rfl ?_
  unfold WA
  refine ⟨[.b 0, .b 1], ε, ?_, [.val (clV g cs), .val (.int bk)], ?_, ?_, ?_⟩
  · rw [av_cons1, h1]
    simp only
    rw [av_cons1, h2]
    simp only [av_nil0]
  · simp only [argsOf, argOf, g1, g2]
  · simp only [lentIx, g1, g2]
  · refine wc_of (e_Score_init k g cs bk hg hc) ⟨rfl, hd_of q⟩
theorem e_looks_of (hg : g.Ok) (hc : LOk g cs) (h0 : 0 ≤ bk) (h5 : bk ≤ 5) (as : List AC) (ha : AsOk g as) (hl : as.length ≤ 1000) : Fk D (k+7) i_looks_of [.val (clV g cs), .val (.int bk), .val (.tup (as.map AC.v))] = some (.v (.tup ((stagesS g cs bk (firstS g) as).map fun s => lvV (lookS g s))), [clV g cs, .int bk, .tup (as.map AC.v)]) := by
  refine wc_eq ?_
  refine wc_fn (F_looks_of _ _) rfl (by simp only [startE, slotOf, List.map, List.length, List.replicate, List.cons_append, List.nil_append, List.length_cons, List.length_nil, Nat.reduceAdd, Nat.reduceSub]; rfl) ?_; show WB D _ B_looks_of _ _ _ _ _; unfold B_looks_of
  have q1 := e_stages k g cs bk hg hc h0 h5 as ha hl
  (repeat' (first | array_get_dec | (refine w_score hg hc rfl rfl rfl rfl ?_) | array_mem_dec))
  refine we_lcD (stagesS g cs bk (firstS g) as) SG.v (fun _ => true) (fun s => lvV (lookS g s)) ?_
  (repeat' (first | array_get_dec | refine fd_of m_sc_stages g cs bk ?_ | refine me_of m_sc_stages g cs bk ?_ | array_mem_dec))
  refine ⟨rfl, cap_of (by rw [stagesS_len]; omega), ⟨_, rfl, fun s hs => ?_⟩, ?_⟩
  · have q2 := e_look (k+4) g cs bk hg s (stagesS_ok g cs bk hg hc h0 h5 as _ firstS_ok ha s hs)
    refine ⟨_, tg_one (by (repeat (first | exact put_z rfl | exact put_z (by with_reducible assumption) | apply put_s))), ?_⟩
    (repeat' (first | array_get_dec | refine fd_of m_sc_look g cs bk ?_ | refine me_of m_sc_look g cs bk ?_ | array_mem_dec))
    refine ⟨rfl, ?_⟩
    (repeat' (first | array_get_dec | refine fd_of m_sc_look g cs bk ?_ | refine me_of m_sc_look g cs bk ?_ | array_mem_dec))
  · rw [filter_true]
    (repeat' (first | array_get_dec | array_mem_dec))
theorem e_stage_behind (hg : g.Ok) (hc : LOk g cs) (h0 : 0 ≤ bk) (h5 : bk ≤ 5) (as : List AC) (ha : AsOk g as) (hl : as.length ≤ 60) : Fk D (k+8) i_stage_behind [.val (clV g cs), .val (.int bk), .val (.tup (as.map AC.v))] = some (.v (lastS g cs bk (firstS g) as).v, [clV g cs, .int bk, .tup (as.map AC.v)]) := by
  refine wc_eq ?_
  refine wc_fn (F_stage_behind _ _) rfl (by simp only [startE, slotOf, List.map, List.length, List.replicate, List.cons_append, List.nil_append, List.length_cons, List.length_nil, Nat.reduceAdd, Nat.reduceSub]; rfl) ?_; show WB D _ B_stage_behind _ _ _ _ _; unfold B_stage_behind
  have q1 := e_need_acted k g cs bk hg h0 h5 as ha hl
  have q2 := e_stages (k+1) g cs bk hg hc h0 h5 as ha (by omega)
  obtain ⟨pre, hpre⟩ := stagesS_last g cs bk as (firstS g)
  have hat := atI_last_map SG.v hpre
  (repeat' (first | array_get_dec | (refine w_score hg hc rfl rfl rfl rfl ?_) | refine fd_of m_sc_stages g cs bk ?_ | refine me_of m_sc_stages g cs bk ?_ | array_mem_dec))
theorem e_look_of (hg : g.Ok) (hc : LOk g cs) (h0 : 0 ≤ bk) (h5 : bk ≤ 5) (as : List AC) (ha : AsOk g as) (hl : as.length ≤ 60) : Fk D (k+8) i_look_of [.val (clV g cs), .val (.int bk), .val (.tup (as.map AC.v))] = some (.v (lvV (lookS g (lastS g cs bk (firstS g) as))), [clV g cs, .int bk, .tup (as.map AC.v)]) := by
  refine wc_eq ?_
  refine wc_fn (F_look_of _ _) rfl (by simp only [startE, slotOf, List.map, List.length, List.replicate, List.cons_append, List.nil_append, List.length_cons, List.length_nil, Nat.reduceAdd, Nat.reduceSub]; rfl) ?_; show WB D _ B_look_of _ _ _ _ _; unfold B_look_of
  have q1 := e_need_acted k g cs bk hg h0 h5 as ha hl
  have q2 := e_looks_of k g cs bk hg hc h0 h5 as ha (by omega)
  obtain ⟨pre, hpre⟩ := stagesS_last g cs bk as (firstS g)
  have hat := atI_last_map (fun s => lvV (lookS g s)) hpre
  (repeat' (first | array_get_dec | array_mem_dec))
end
end Law
end
section
set_option Elab.async false
set_option linter.all false
set_option maxRecDepth 100000
set_option maxHeartbeats 4000000
namespace Law
open Eng PySem
/-! ### what all runs go to -/
theorem sentR_e (r : Rn) (lev long : Int) : (sentR r lev long).e = lev := by
  unfold sentR
  split
  · assumption
  · split <;> rfl
theorem tickR_e (r : Rn) : (tickR r).e = r.e := by
  unfold tickR
  split
  · rfl
  · split <;> rfl
theorem mem_sndL {g : RG} {c : CU} {i : Nat} {s : Str} (h : g.chs[i]? = some s) (hn : i ∉ sndL g c) : lookM c.mv s = none := by
  unfold sndL at hn
  have hi : i < g.chs.length := by
    rcases Nat.lt_or_ge i g.chs.length with g' | g'
    · exact g'
    · rw [List.getElem?_eq_none g'] at h; cases h
  split at hn
  · exact absurd (List.mem_range.mpr hi) hn
  · cases e : lookM c.mv s with
    | none => rfl
    | some l =>
      refine absurd ?_ hn
      rw [List.mem_map]
      refine ⟨(s, i), ?_, rfl⟩
      rw [List.mem_filter]
      refine ⟨?_, by simp [e]⟩
      rw [List.mem_iff_getElem?]
      exact ⟨i, by rw [List.getElem?_zipIdx, h]; simp⟩
theorem behindM_get {chs : List Str} {ms : List Int} {c : CU} {i : Nat} {s : Str} {m : Int} (h1 : chs[i]? = some s) (h2 : ms[i]? = some m) : (behindM chs ms c)[i]? = some ((lookM c.mv s).getD m) := by
  unfold behindM
  have hz : (chs.zip ms)[i]? = some (s, m) := List.getElem?_zip_eq_some.mpr ⟨h1, h2⟩
  rw [List.getElem?_map, hz]
  rfl
theorem mean_get (g : RG) (cs : List CU) (p : Nat) {i : Nat} (hi : i < g.chs.length) : ∃ l, (meanAt g cs p)[i]? = some l :=
  ⟨_, List.getElem?_eq_getElem (by rw [meanAt_len]; exact hi)⟩
theorem mean_unsent {g : RG} {cs : List CU} {p i : Nat} (hp : p < cs.length) (hi : i < g.chs.length) (hn : i ∉ sndOf g cs p) : (meanAt g cs (p + 1))[i]? = (meanAt g cs p)[i]? := by
  have e := List.getElem?_eq_getElem hp
  have hn' : i ∉ sndL g cs[p] := by
    unfold sndOf at hn
    rw [e] at hn
    exact hn
  obtain ⟨m, hm⟩ := mean_get g cs p hi
  have hc : g.chs[i]? = some g.chs[i] := List.getElem?_eq_getElem hi
  rw [meanAt_succ g cs p _ e, behindM_get hc hm, mem_sndL hc hn', hm]
  rfl
/-- all runs go to what the place means -/
def Goal (g : RG) (cs : List CU) (s : SG) : Prop := ∀ (i : Nat) (r : Rn), s.runs[i]? = some r → (meanAt g cs (s.place + 1).toNat)[i]? = some r.e
theorem runB_goal {g : RG} {cs : List CU} {bk : Int} {p d : Int} (hp0 : -1 ≤ p) (a : AC) (hd : d = 1 → p + 1 < cs.length) {i : Nat} {r : Rn} (hi : i < g.chs.length) (h : (meanAt g cs (p + 1).toNat)[i]? = some r.e) :
    (meanAt g cs ((moveS g cs bk p d a).p + 1).toNat)[i]? = some (runB g cs a (moveS g cs bk p d a) i r).e := by
  have hh : (if a = .wait then tickR r else r).e = r.e := by
    split
    · exact tickR_e r
    · rfl
  have sentAll : ∀ (q l : Int), (meanAt g cs (q + 1).toNat)[i]? = some (sentR (if a = .wait then tickR r else r) ((meanAt g cs (q + 1).toNat)[i]?.getD 0) l).e := fun q l => by
    obtain ⟨m, hm⟩ := mean_get g cs (q + 1).toNat hi
    rw [sentR_e, hm]; rfl
  have started : ∀ (q : Nat), (q : Int) = p + 1 → q < cs.length → (meanAt g cs ((startS g cs q).p + 1).toNat)[i]? = some (runB g cs a (startS g cs q) i r).e := fun q hq hql => by
    unfold runB startS
    simp only
    by_cases hw : i ∈ sndOf g cs q
    · rw [if_pos hw]
      exact sentAll q _
    · rw [if_neg hw, hh]
      have e1 : ((q : Int) + 1).toNat = q + 1 := by omega
      have e2 : (p + 1).toNat = q := by omega
      rw [e1, mean_unsent hql hi hw, ← e2]
      exact h
  have all : ∀ (q dd l : Int), (meanAt g cs (q + 1).toNat)[i]? = some (runB g cs a ⟨q, dd, .to (List.range g.chs.length) l⟩ i r).e := fun q dd l => by
    unfold runB
    simp only
    rw [if_pos (List.mem_range.mpr hi)]
    exact sentAll q l
  have same : (meanAt g cs (p + 1).toNat)[i]? = some (runB g cs a ⟨p, d, .no⟩ i r).e := by
    unfold runB
    simp only
    rw [hh]; exact h
  cases a with
  | wait =>
    show (meanAt g cs ((passS g cs p d).p + 1).toNat)[i]? = some (runB g cs .wait (passS g cs p d) i r).e
    unfold passS
    by_cases h1 : d = 1
    · rw [if_pos h1]
      exact started _ (by omega) (by have := hd h1; omega)
    · rw [if_neg h1]
      show (meanAt g cs (p + 1).toNat)[i]? = some (if AC.wait = AC.wait then tickR r else r).e
      rw [hh]; exact h
  | jump n =>
    show (meanAt g cs ((jumpS g cs p d n).p + 1).toNat)[i]? = some (runB g cs (.jump n) (jumpS g cs p d n) i r).e
    unfold jumpS
    cases e : placeOf cs n with
    | none => exact same
    | some q => exact all q _ _
  | go =>
    unfold moveS
    simp only
    by_cases h1 : p + 1 < cs.length
    · rw [if_pos h1]
      exact started _ (by omega) (by omega)
    · rw [if_neg h1]; exact same
  | bck =>
    unfold moveS
    simp only
    by_cases h1 : 0 ≤ p
    · rw [if_pos h1]
      exact all _ _ _
    · rw [if_neg h1]; exact same
  | hold c l => exact same
  | fre c => exact same
theorem stepS_goal {g : RG} {cs : List CU} {bk : Int} {s : SG} (hs : s.Ok g cs) (h : Goal g cs s) (a : AC) : Goal g cs (stepS g cs bk s a) := by
  have other : Goal g cs ⟨(s.runs.zipIdx 0).map fun p => runB g cs a (moveS g cs bk s.place s.due a) p.2 p.1, (moveS g cs bk s.place s.due a).p, (moveS g cs bk s.place s.due a).d, s.held⟩ := by
    intro i r hr
    simp only at hr
    rw [List.getElem?_map, List.getElem?_zipIdx] at hr
    cases e : s.runs[i]? with
    | none => rw [e] at hr; cases hr
    | some r0 =>
      rw [e] at hr
      cases hr
      have hi : i < g.chs.length := by
        rw [← hs.nr]
        rcases Nat.lt_or_ge i s.runs.length with g' | g'
        · exact g'
        · rw [List.getElem?_eq_none g'] at e; cases e
      have := runB_goal (bk := bk) hs.p0 a (by have := hs.d; omega) hi (h i r0 e) (d := s.due)
      simpa using this
  cases a with
  | hold c l => exact h
  | fre c => exact h
  | go => exact other
  | bck => exact other
  | wait => exact other
  | jump n => exact other
theorem firstS_goal {g : RG} {cs : List CU} : Goal g cs (firstS g) := by
  intro i r hr
  unfold firstS at hr ⊢
  simp only at hr ⊢
  rw [List.getElem?_replicate] at hr
  split at hr
  · cases hr
    show (meanAt g cs 0)[i]? = some 0
    unfold meanAt
    rw [List.take_zero, List.foldl_nil, List.getElem?_replicate, if_pos (by assumption)]
  · cases hr
theorem lastS_goal {g : RG} {cs : List CU} {bk : Int} (hg : g.Ok) (hc : LOk g cs) (hb0 : 0 ≤ bk) (hb5 : bk ≤ 5) : ∀ (as : List AC) (s : SG), s.Ok g cs → AsOk g as → Goal g cs s → Goal g cs (lastS g cs bk s as)
  | [], s, _, _, h => h
  | a :: as, s, hs, ha, h => lastS_goal hg hc hb0 hb5 as _ (stepS_ok hg hc hb0 hb5 hs (ha a (by simp))) (fun x hx => ha x (by simp [hx])) (stepS_goal hs h a)
end Law
end
section
set_option Elab.async false
set_option linter.all false
set_option maxRecDepth 100000
set_option maxHeartbeats 4000000
set_option hygiene false
local macro_rules | `(tactic| array_get_dec) => `(tactic| first | refine Eng.wb_cons ?_ | refine Eng.ws_asg ?_ | refine Eng.ws_ret ?_ | refine Eng.ws_ife ?_ | refine Eng.ws_asgT ?_ | refine Eng.ws_par ?_ | refine Eng.ws_exp ?_ | refine Eng.wb_nil ?_ | refine Eng.ws_pass ?_ | refine Eng.ws_retN ?_ | refine Eng.ws_subS ?_ | refine Eng.ws_fldS ?_ | refine Eng.ws_app rfl ?_ | refine Eng.ws_brk ?_ | refine Eng.ws_cont ?_ | refine Eng.wv_of ?_ | refine Eng.wn_of ?_ | refine Eng.wt_of ?_ | refine Eng.we_var rfl ?_ | refine Eng.lk_of rfl ?_ | refine Eng.we_lit ?_ | refine Eng.fzw_v ?_ | refine Eng.fzw_val rfl ?_ | refine Eng.fzw_o ?_ | (apply Eng.fzw_own rfl; · (repeat (first | exact Eng.set_z | apply Eng.set_s))) | refine Eng.wf_cons ?_ | refine Eng.wf_nil ?_ | refine Eng.wa_cons ?_ | refine Eng.wa_nil ?_ | refine Eng.we_tup ?_ | refine Eng.we_ix ?_ | refine Eng.we_bin ?_ | refine Eng.we_cmp ?_ | refine Eng.we_fld ?_ | refine Eng.we_call ?_ | refine Eng.we_meth ?_ | refine Eng.we_blt ?_ | refine Eng.we_lst ?_ | refine Eng.we_ife ?_ | refine Eng.we_and2 ?_ | refine Eng.we_or2 ?_ | refine Eng.we_not ?_ | refine Eng.we_neg ?_ | refine Eng.we_isB ?_ | refine Eng.we_isC ?_ | refine Eng.we_chn ?_ | refine Eng.we_slc ?_ | refine Eng.we_dget1 ?_ | refine Eng.we_dget2 ?_ | refine Eng.isd_of rfl ?_ | refine Eng.we_dsp ?_ | refine Eng.wd_cons ?_ | refine Eng.wd_nil ?_ | refine Eng.wo_no ?_ | refine Eng.wo_so ?_ | refine Eng.wts_nil ?_ | refine Eng.wts_one ?_ | refine Eng.wi_seq ?_ | refine Eng.wi_rng1 ?_ | refine Eng.wi_rng2 ?_ | refine Eng.wi_enum ?_ | refine Eng.wi_zip ?_ | refine Eng.bo_addI ?_ | refine Eng.bo_subI ?_ | refine Eng.cm_ltI ?_ | refine Eng.cm_leI ?_ | refine Eng.cm_gtI ?_ | refine Eng.cm_geI ?_ | refine Eng.cm_eqI ?_ | refine Eng.cm_neI ?_ | refine Eng.cm_eqS ?_ | refine Eng.cm_neS ?_ | refine Eng.cm_isN ?_ | refine Eng.cm_isnotN ?_ | refine Eng.cm_inD rfl ?_ | refine Eng.cm_ninD rfl ?_ | refine Eng.cm_inTS ?_ | refine Eng.cm_inLS ?_ | refine Eng.cm_ninTS ?_ | refine Eng.cm_ninLS ?_ | refine Eng.ix_t0 ?_ | refine Eng.ix_t1 ?_ | refine Eng.ix_t2 ?_ | refine Eng.ix_t3 ?_ | refine Eng.ix_t4 ?_ | refine Eng.ix_l0 ?_ | refine Eng.ix_l1 ?_ | refine Eng.ix_l2 ?_ | refine Eng.ix_T (by with_reducible assumption) ?_ | refine Eng.ix_L (by with_reducible assumption) ?_ | refine Eng.in_of ?_ | refine Eng.tupn_of rfl ?_ | refine Eng.hd_of ?_ | refine Eng.dct_of ?_ | refine Eng.bo_mulI (by first | exact Eng.small_l (by first | decide | with_reducible assumption) | exact Eng.small_r (by first | decide | with_reducible assumption) | exact Eng.small_r (Eng.small_of' (by omega) (by omega)) | exact Eng.small_l (Eng.small_of' (by omega) (by omega))) ?_ | refine Eng.bo_fdiv (by first | decide | with_reducible assumption | exact Eng.nat31_of (by omega) (by omega)) ?_ | refine Eng.bo_mod (by first | decide | omega) ?_ | refine Eng.bo_addT (by first | with_reducible assumption | decide) ?_ | refine Eng.bo_addL (by first | with_reducible assumption | decide) ?_ | refine Eng.bo_addS (by first | with_reducible assumption | decide) ?_ | refine Eng.bo_of (by with_reducible assumption) ?_ | refine Eng.cm_of (by with_reducible assumption) ?_ | refine Eng.ix_of (by with_reducible assumption) ?_ | refine Eng.sl_of (by with_reducible assumption) ?_ | refine Eng.bl_of (by with_reducible assumption) ?_ | refine Eng.bl_divmod (by first | decide | with_reducible assumption | exact Eng.nat31_of (by omega) (by omega)) ?_ | refine Eng.fd_of (by with_reducible assumption) ?_ | refine Eng.me_of (by with_reducible assumption) ?_ | refine Eng.call_plain rfl rfl ?_ | refine Eng.call_well rfl (fun _ => rfl) ?_ | refine Eng.set_l0 ?_ | refine Eng.set_l1 ?_ | refine Eng.set_l2 ?_ | (apply Eng.stw_v; · (repeat (first | exact Eng.put_z rfl | exact Eng.put_z (by with_reducible assumption) | apply Eng.put_s))) | (apply Eng.stw_o; · (repeat (first | exact Eng.put_z rfl | exact Eng.put_z (by with_reducible assumption) | apply Eng.put_s))) | (apply Eng.stw_val rfl; · (repeat (first | exact Eng.put_z rfl | exact Eng.put_z (by with_reducible assumption) | apply Eng.put_s))) | (apply Eng.stw_own rfl; · (repeat (first | exact Eng.set_z | apply Eng.set_s)); · (repeat (first | exact Eng.put_z rfl | exact Eng.put_z (by with_reducible assumption) | apply Eng.put_s))) | refine Eng.stws_nil ?_ | (apply Eng.stws_cons; · (repeat (first | exact Eng.put_z rfl | exact Eng.put_z (by with_reducible assumption) | apply Eng.put_s))) | refine Eng.tgw_nil ?_ | (apply Eng.tgw_nm; · (repeat (first | exact Eng.put_z rfl | exact Eng.put_z (by with_reducible assumption) | apply Eng.put_s))) | refine Eng.tgw_sub ?_ | (apply Eng.wrw_own rfl; · (repeat (first | exact Eng.set_z | apply Eng.set_s))) | (apply Eng.wrw_lent rfl; · (repeat (first | exact Eng.set_z | apply Eng.set_s))) | refine Eng.mvw_v ?_ | refine Eng.mvw_o ?_ | refine Eng.mvw_val rfl ?_ | (apply Eng.mvw_own rfl; · (repeat (first | exact Eng.set_z | apply Eng.set_s))))
local macro_rules | `(tactic| array_mem_dec) => `(tactic| first | refine Eng.fd_of rfl ?_ | refine Eng.me_of rfl ?_ | refine Eng.wc_of (by with_reducible assumption) ?_ | refine Eng.sm_of rfl ?_ | refine Eng.sm_of (by with_reducible assumption) ?_ | refine Eng.tr_of rfl ?_ | refine Eng.tr_of (by with_reducible assumption) ?_ | refine Eng.bl_of rfl ?_ | refine Eng.sl_of rfl ?_ | refine Eng.bo_of rfl ?_ | refine Eng.cm_of rfl ?_ | refine Eng.ix_of rfl ?_ | refine Eng.outs_of rfl ?_ | refine Eng.ifb_t (by first | rfl | with_reducible assumption | (simp only [Bool.not_eq_true']; with_reducible assumption) | (simp only [decide_eq_true_eq, beq_iff_eq, Bool.not_eq_true', bne_iff_ne, decide_eq_false_iff_not, beq_eq_false_iff_ne, ne_eq]; omega) | decide) ?_ | refine Eng.ifb_f (by first | rfl | with_reducible assumption | (simp only [Bool.not_eq_false']; with_reducible assumption) | (simp only [decide_eq_false_iff_not, beq_eq_false_iff_ne, Bool.not_eq_false', ne_eq, beq_iff_eq, decide_eq_true_eq]; omega) | decide) ?_ | exact ⟨rfl, rfl⟩ | exact rfl | (refine Eng.ifb_s (fun hc => ?_) (fun hc => ?_) <;> (try simp only [decide_eq_true_eq, decide_eq_false_iff_not, beq_iff_eq, beq_eq_false_iff_ne, ne_eq, Bool.not_eq_true', Bool.not_eq_false', Int.not_lt, Int.not_le] at hc)))
namespace Law
open Eng PySem
def rigT (g : RG) : Val := .tup [g.nv, .int g.top]
/-! ### rows of acts as tuples -/
def actsV (as : List AC) : Val := .tup (as.map AC.v)
theorem bo_addA {P : RV → Prop} (as bs : List AC) (h : as.length + bs.length ≤ 10000) (p : P (.v (.tup ((as ++ bs).map AC.v)))) : BO .Add (.tup (as.map AC.v)) (.tup (bs.map AC.v)) P := by
  rw [List.map_append] at p
  exact bo_addT (cap_of (by simpa using h)) p
theorem bo_mulA {P : RV → Prop} (a : AC) {k : Int} (h0 : 0 ≤ k) (h1 : k ≤ 1000) (p : P (.v (.tup ((List.replicate k.toNat a).map AC.v)))) : BO .Mult (.tup [a.v]) (.int k) P := by
  rw [List.map_replicate] at p
  exact bo_mulT h0 h1 p
theorem sl_13 {P : RV → Prop} {a b c d : Val} (p : P (.v (.tup [b, c]))) : SL (.tup [a, b, c, d]) (some 1) (some 3) P := sl_of (by rfl) p
theorem sl_03 {P : RV → Prop} {a b c d : Val} (p : P (.v (.tup [a, b, c]))) : SL (.tup [a, b, c, d]) none (some 3) P := sl_of (by rfl) p
theorem ix_m1 {T : List (List (Str × Val))} {P : Val → Prop} {xs : List Val} {v : Val} (p : P v) : IX T (.lst (xs ++ [v])) (.int (-1)) P := ix_of (atI_last xs v) p
/-! ### places and what is due, without the runs -/
theorem step_wait_p (g : RG) (cs : List CU) (bk : Int) (s : SG) : (stepS g cs bk s .wait).place = (passS g cs s.place s.due).p ∧ (stepS g cs bk s .wait).due = (passS g cs s.place s.due).d := ⟨rfl, rfl⟩
def plainR : Nat → Val → Prop := fun n v => Eng.plain n v = true
theorem plain_rn (r : Rn) : Eng.plain 1 r.v = true := by
  unfold Rn.v
  simp [Eng.plain, Eng.plains]
theorem plains_of {α : Type} (n : Nat) (f : α → Val) (h : ∀ a, Eng.plain n (f a) = true) : ∀ xs : List α, Eng.plains n (xs.map f) = true
  | [] => rfl
  | x :: xs => by
    rw [List.map_cons]
    unfold Eng.plains
    rw [h x, plains_of n f h xs]; rfl
theorem plain_tup {n : Nat} {xs : List Val} (hl : xs.length ≤ 1000) (h : Eng.plains n xs = true) : Eng.plain (n + 1) (.tup xs) = true := by
  unfold Eng.plain
  rw [h, decide_eq_true hl]; rfl
theorem plain_stage {g : RG} {cs : List CU} (hg : g.Ok) {s : SG} (hs : s.Ok g cs) : Eng.plain 3 s.v = true := by
  have l8 := hg.l8
  have hh := hs.h.len hg
  have hr : s.runs.length ≤ 8 := by rw [hs.nr]; exact l8
  unfold SG.v
  refine plain_tup (by simp) ?_
  have h1 : Eng.plain 2 (.tup (s.runs.map Rn.v)) = true := plain_tup (by simp; omega) (plains_of 1 _ plain_rn _)
  have h2 : Eng.plain 2 (.tup (s.held.map mvV)) = true := plain_tup (by simp; omega) (plains_of 1 _ (fun m => by unfold mvV; simp [Eng.plain, Eng.plains]) _)
  show (Eng.plain 2 (.tup (s.runs.map Rn.v)) && (Eng.plain 2 (.int s.place) && (Eng.plain 2 (.int s.due) && (Eng.plain 2 (.tup (s.held.map mvV)) && true)))) = true
  rw [h1, h2]
  rfl
theorem e_law_list (k : Nat) (g : RG) (cs : List CU) (hg : g.Ok) (hc : LOk g cs) : Fk D (k+10) i__law_list [.val (rigT g), .val (.tup (cs.map CU.v))] = some (.v (clV g cs), [rigT g, .tup (cs.map CU.v)]) := by
  refine wc_eq ?_
  refine wc_fn (F__law_list _ _) rfl (by simp only [startE, slotOf, List.map, List.length, List.replicate, List.cons_append, List.nil_append, List.length_cons, List.length_nil, Nat.reduceAdd, Nat.reduceSub]; rfl) ?_; show WB D _ B__law_list _ _ _ _ _; unfold B__law_list
  have q1 := e_Rig_init (k+4) g hg
  have q2 := e_CueList_init k g cs hg hc
  unfold rigT
  (repeat' (first | array_get_dec | (refine we_make (C := ⟨i_CueList___init__, _, true, _⟩) C_CueList rfl ?_) | (refine we_make (C := ⟨i_Rig___init__, _, true, _⟩) C_Rig rfl ?_) | array_mem_dec))
  refine ⟨rfl, wc_of q1 ⟨rfl, ?_⟩⟩
  (repeat' (first | array_get_dec | array_mem_dec))
  refine ⟨rfl, wc_of q2 ⟨rfl, ?_⟩⟩
  (repeat' (first | array_get_dec | array_mem_dec))
end Law
end
section
set_option Elab.async false
set_option linter.all false
set_option maxRecDepth 100000
set_option maxHeartbeats 4000000
namespace Law
open Eng PySem
/-! ### hands, in plain -/
section
variable {D : Tbl} {F : FT} {ε : Eng.Env} {N : Eng.Env → Prop} {R : RV → Eng.Env → Prop} {B C : Eng.Env → Prop}
theorem wb_cut2 (P : Eng.Env → Prop) {s1 s2 : S} {ss : Ss} (h : WS D F s1 ε (fun ε1 => WS D F s2 ε1 P R B C) R B C) (h2 : ∀ ε1, P ε1 → WB D F ss ε1 N R B C) : WB D F (.cons s1 (.cons s2 ss)) ε N R B C :=
  wb_cut (fun ε1 => WS D F s2 ε1 P R B C) h fun _ h1 => wb_cut P h1 h2
theorem wb_cut3 (P : Eng.Env → Prop) {s1 s2 s3 : S} {ss : Ss} (h : WS D F s1 ε (fun ε1 => WS D F s2 ε1 (fun ε2 => WS D F s3 ε2 P R B C) R B C) R B C) (h2 : ∀ ε1, P ε1 → WB D F ss ε1 N R B C) : WB D F (.cons s1 (.cons s2 (.cons s3 ss))) ε N R B C :=
  wb_cut (fun ε1 => WS D F s2 ε1 (fun ε2 => WS D F s3 ε2 P R B C) R B C) h fun _ h1 => wb_cut2 P h1 h2
end
theorem placeOf_at {g : RG} {cs : List CU} (hc : LOk g cs) {p : Nat} {c : CU} (h : cs[p]? = some c) : placeOf cs c.num = some p := by
  cases e : placeOf cs c.num with
  | none => exact absurd rfl (placeOf_none e c (List.mem_of_getElem? h))
  | some q =>
    obtain ⟨c2, h2, e2⟩ := placeOf_some e
    have key : ∀ {i j : Nat} {a b : CU}, cs[i]? = some a → cs[j]? = some b → i < j → a.num < b.num := by
      intro i j a b ha hb hij
      have hj : j < cs.length := by
        rcases Nat.lt_or_ge j cs.length with g | g
        · exact g
        · rw [List.getElem?_eq_none g] at hb; cases hb
      rw [List.getElem?_eq_getElem (by omega)] at ha
      rw [List.getElem?_eq_getElem hj] at hb
      cases ha
      cases hb
      exact List.pairwise_iff_getElem.mp hc.asc i j (by omega) hj hij
    rcases Nat.lt_trichotomy p q with hl | hl | hl
    · have := key h h2 hl; omega
    · rw [hl]
    · have := key h2 h hl; omega
theorem step_jump {g : RG} {cs : List CU} {bk : Int} {s : SG} {n : Int} {p : Nat} (e : placeOf cs n = some p) : (stepS g cs bk s (.jump n)).place = p ∧ (stepS g cs bk s (.jump n)).due = followOf cs p ∧ (stepS g cs bk s (.jump n)).held = s.held := by
  have hm : moveS g cs bk s.place s.due (.jump n) = ⟨p, followOf cs p, .to (List.range g.chs.length) (fadeOf cs p)⟩ := by
    show jumpS g cs s.place s.due n = _
    unfold jumpS
    rw [e]
  refine ⟨?_, ?_, rfl⟩
  · show (moveS g cs bk s.place s.due (.jump n)).p = _
    rw [hm]
  · show (moveS g cs bk s.place s.due (.jump n)).d = _
    rw [hm]
theorem waits_stay {g : RG} {cs : List CU} {bk : Int} {s : SG} : ∀ t : Nat, (s.due = -1 ∨ (t : Int) < s.due) → (lastS g cs bk s (List.replicate t .wait)).place = s.place ∧ (lastS g cs bk s (List.replicate t .wait)).due = (if s.due = -1 then -1 else s.due - t) ∧ (lastS g cs bk s (List.replicate t .wait)).held = s.held
  | 0, h => by
    refine ⟨rfl, ?_, rfl⟩
    show s.due = _
    split
    · assumption
    · omega
  | t + 1, h => by
    obtain ⟨h1, h2, h3⟩ := waits_stay (g := g) (cs := cs) (bk := bk) (s := s) t (by omega)
    rw [List.replicate_succ', lastS_snoc]
    generalize lastS g cs bk s (List.replicate t .wait) = s' at *
    have hp : (stepS g cs bk s' .wait).place = (passS g cs s'.place s'.due).p := rfl
    have hd : (stepS g cs bk s' .wait).due = (passS g cs s'.place s'.due).d := rfl
    have hh : (stepS g cs bk s' .wait).held = s'.held := rfl
    have hne : s'.due ≠ 1 := by
      rw [h2]
      split
      · decide
      · omega
    have e1 : passS g cs s'.place s'.due = ⟨s'.place, if 1 < s'.due then s'.due - 1 else s'.due, .no⟩ := by
      unfold passS
      rw [if_neg hne]
    rw [hp, hd, hh, e1]
    refine ⟨h1, ?_, h3⟩
    show (if 1 < s'.due then s'.due - 1 else s'.due) = _
    rw [h2]
    by_cases hm : s.due = -1
    · rw [if_pos hm, if_pos hm]; decide
    · rw [if_neg hm, if_neg hm, if_pos (by omega)]
      omega
theorem step_again {g : RG} {cs : List CU} {bk : Int} {s : SG} (hs : s.Ok g cs) (hgoal : Goal g cs s) {n : Int} {p : Nat} (hp : s.place = p) (e : placeOf cs n = some p) : stepS g cs bk s (.jump n) = ⟨s.runs, p, followOf cs p, s.held⟩ := by
  have hm : moveS g cs bk s.place s.due (.jump n) = ⟨p, followOf cs p, .to (List.range g.chs.length) (fadeOf cs p)⟩ := by
    show jumpS g cs s.place s.due n = _
    unfold jumpS
    rw [e]
  show SG.mk ((s.runs.zipIdx 0).map fun q => runB g cs (.jump n) (moveS g cs bk s.place s.due (.jump n)) q.2 q.1) (moveS g cs bk s.place s.due (.jump n)).p (moveS g cs bk s.place s.due (.jump n)).d s.held = _
  rw [hm]
  congr 1
  refine List.ext_getElem? fun i => ?_
  rw [List.getElem?_map, List.getElem?_zipIdx]
  cases er : s.runs[i]? with
  | none => rfl
  | some r =>
    have hi : i < g.chs.length := by
      rw [← hs.nr]
      rcases Nat.lt_or_ge i s.runs.length with g' | g'
      · exact g'
      · rw [List.getElem?_eq_none g'] at er; cases er
    have hg := hgoal i r er
    rw [hp] at hg
    show some (runB g cs (.jump n) ⟨p, followOf cs p, .to (List.range g.chs.length) (fadeOf cs p)⟩ (0 + i) r) = some r
    rw [Nat.zero_add]
    unfold runB
    simp only
    rw [if_pos (List.mem_range.mpr hi), if_neg (by simp), hg]
    unfold sentR
    rw [if_pos (show r.e = (some r.e).getD 0 from rfl)]
theorem step_idle {g : RG} {cs : List CU} {bk : Int} {s : SG} {a : AC} (ha : a = .go ∨ ∃ n, a = .jump n) (hm : moveS g cs bk s.place s.due a = ⟨s.place, s.due, .no⟩) : stepS g cs bk s a = s := by
  have hw : a ≠ .wait := by rcases ha with rfl | ⟨n, rfl⟩ <;> simp
  have e : stepS g cs bk s a = ⟨(s.runs.zipIdx 0).map fun q => runB g cs a (moveS g cs bk s.place s.due a) q.2 q.1, (moveS g cs bk s.place s.due a).p, (moveS g cs bk s.place s.due a).d, s.held⟩ := by
    rcases ha with rfl | ⟨n, rfl⟩ <;> rfl
  rw [e, hm]
  have : ((s.runs.zipIdx 0).map fun q => runB g cs a ⟨s.place, s.due, .no⟩ q.2 q.1) = s.runs := by
    refine List.ext_getElem? fun i => ?_
    rw [List.getElem?_map, List.getElem?_zipIdx]
    cases er : s.runs[i]? with
    | none => rfl
    | some r =>
      show some (runB g cs a ⟨s.place, s.due, .no⟩ (0 + i) r) = some r
      unfold runB
      simp only
      rw [if_neg hw]
  rw [this]
/-- what an act leaves, but for what is held -/
theorem step_leaves {g : RG} {cs : List CU} {bk : Int} {s : SG} {a : AC} (h : (∃ c l, a = .hold c l) ∨ (∃ c, a = .fre c) ∨ (∃ n, a = .jump n ∧ placeOf cs n = none) ∨ (a = .go ∧ ¬ s.place + 1 < cs.length)) : (stepS g cs bk s a).runs = s.runs ∧ (stepS g cs bk s a).place = s.place ∧ (stepS g cs bk s a).due = s.due := by
  rcases h with ⟨c, l, rfl⟩ | ⟨c, rfl⟩ | ⟨n, rfl, e⟩ | ⟨rfl, e⟩
  · exact ⟨rfl, rfl, rfl⟩
  · exact ⟨rfl, rfl, rfl⟩
  · rw [step_idle (.inr ⟨n, rfl⟩) (by show jumpS g cs s.place s.due n = _; unfold jumpS; rw [e])]
    exact ⟨rfl, rfl, rfl⟩
  · rw [step_idle (.inl rfl) (by unfold moveS; simp only; rw [if_neg e])]
    exact ⟨rfl, rfl, rfl⟩
theorem step_go {g : RG} {cs : List CU} {bk : Int} {s : SG} {p : Nat} (hp : s.place + 1 = p) (hl : p < cs.length) : (stepS g cs bk s .go).place = p ∧ (stepS g cs bk s .go).due = followOf cs p := by
  have hm : moveS g cs bk s.place s.due .go = startS g cs p := by
    unfold moveS
    simp only
    rw [if_pos (by omega), hp]
    rfl
  refine ⟨?_, ?_⟩
  · show (moveS g cs bk s.place s.due .go).p = _
    rw [hm]; rfl
  · show (moveS g cs bk s.place s.due .go).d = _
    rw [hm]; rfl
theorem step_back {g : RG} {cs : List CU} {bk : Int} {s : SG} : (0 ≤ s.place → (stepS g cs bk s .bck).place = s.place - 1 ∧ (stepS g cs bk s .bck).due = -1) ∧ (¬ 0 ≤ s.place → (stepS g cs bk s .bck).place = s.place ∧ (stepS g cs bk s .bck).due = s.due) := by
  have hp : (stepS g cs bk s .bck).place = (moveS g cs bk s.place s.due .bck).p := rfl
  have hd : (stepS g cs bk s .bck).due = (moveS g cs bk s.place s.due .bck).d := rfl
  rw [hp, hd]
  unfold moveS
  simp only
  refine ⟨fun h => ?_, fun h => ?_⟩
  · rw [if_pos h]; exact ⟨rfl, rfl⟩
  · rw [if_neg h]; exact ⟨rfl, rfl⟩
theorem gos_place {g : RG} {cs : List CU} {bk : Int} : ∀ n : Nat, (lastS g cs bk (firstS g) (List.replicate n .go)).place = (min n cs.length : Nat) - 1
  | 0 => by
    show (-1 : Int) = _
    simp
  | n + 1 => by
    have ih := gos_place (g := g) (cs := cs) (bk := bk) n
    rw [List.replicate_succ', lastS_snoc]
    generalize lastS g cs bk (firstS g) (List.replicate n .go) = s at *
    by_cases h : n < cs.length
    · rw [(step_go (p := n) (by rw [ih]; omega) h).1]
      omega
    · rw [(step_leaves (.inr (.inr (.inr ⟨rfl, by rw [ih]; omega⟩)))).2.1, ih]
      omega
theorem backs_place {g : RG} {cs : List CU} {bk : Int} {s : SG} (h0 : -1 ≤ s.place) : ∀ n : Nat, (lastS g cs bk s (List.replicate n .bck)).place = max (s.place - n) (-1) ∧ (1 ≤ n → 0 ≤ s.place → (lastS g cs bk s (List.replicate n .bck)).due = -1)
  | 0 => by
    refine ⟨?_, fun h => by omega⟩
    show s.place = _
    omega
  | n + 1 => by
    obtain ⟨i1, i2⟩ := backs_place (g := g) (cs := cs) (bk := bk) h0 n
    rw [List.replicate_succ', lastS_snoc]
    have z : n = 0 → lastS g cs bk s (List.replicate n .bck) = s := by rintro rfl; rfl
    generalize lastS g cs bk s (List.replicate n .bck) = s' at *
    have hb := step_back (g := g) (cs := cs) (bk := bk) (s := s')
    by_cases h : 0 ≤ s'.place
    · obtain ⟨a, b⟩ := hb.1 h
      rw [a, b]
      exact ⟨by omega, fun _ _ => rfl⟩
    · obtain ⟨a, b⟩ := hb.2 h
      rw [a, b]
      refine ⟨by omega, fun _ hs => ?_⟩
      by_cases hn : n = 0
      · rw [z hn] at h; omega
      · exact i2 (by omega) hs
theorem plain_stage3 {g : RG} {cs : List CU} (hg : g.Ok) {s : SG} (hs : s.Ok g cs) : Eng.plain 3 (.tup [.tup (s.runs.map Rn.v), .int s.place, .int s.due]) = true := by
  have l8 := hg.l8
  have hr : s.runs.length ≤ 8 := by rw [hs.nr]; exact l8
  refine plain_tup (by simp) ?_
  have h1 : Eng.plain 2 (.tup (s.runs.map Rn.v)) = true := plain_tup (by simp; omega) (plains_of 1 _ plain_rn _)
  show (Eng.plain 2 (.tup (s.runs.map Rn.v)) && (Eng.plain 2 (.int s.place) && (Eng.plain 2 (.int s.due) && true))) = true
  rw [h1]
  rfl
end Law
end
section
set_option Elab.async false
set_option linter.all false
set_option maxRecDepth 100000
set_option maxHeartbeats 4000000
set_option hygiene false
local macro_rules | `(tactic| array_get_dec) => `(tactic| first | refine Eng.wb_cons ?_ | refine Eng.ws_asg ?_ | refine Eng.ws_ret ?_ | refine Eng.ws_ife ?_ | refine Eng.ws_asgT ?_ | refine Eng.ws_par ?_ | refine Eng.ws_exp ?_ | refine Eng.wb_nil ?_ | refine Eng.ws_pass ?_ | refine Eng.ws_retN ?_ | refine Eng.ws_subS ?_ | refine Eng.ws_fldS ?_ | refine Eng.ws_app rfl ?_ | refine Eng.ws_brk ?_ | refine Eng.ws_cont ?_ | refine Eng.wv_of ?_ | refine Eng.wn_of ?_ | refine Eng.wt_of ?_ | refine Eng.we_var rfl ?_ | refine Eng.lk_of rfl ?_ | refine Eng.we_lit ?_ | refine Eng.fzw_v ?_ | refine Eng.fzw_val rfl ?_ | refine Eng.fzw_o ?_ | (apply Eng.fzw_own rfl; · (repeat (first | exact Eng.set_z | apply Eng.set_s))) | refine Eng.wf_cons ?_ | refine Eng.wf_nil ?_ | refine Eng.wa_cons ?_ | refine Eng.wa_nil ?_ | refine Eng.we_tup ?_ | refine Eng.we_ix ?_ | refine Eng.we_bin ?_ | refine Eng.we_cmp ?_ | refine Eng.we_fld ?_ | refine Eng.we_call ?_ | refine Eng.we_meth ?_ | refine Eng.we_blt ?_ | refine Eng.we_lst ?_ | refine Eng.we_ife ?_ | refine Eng.we_and2 ?_ | refine Eng.we_or2 ?_ | refine Eng.we_not ?_ | refine Eng.we_neg ?_ | refine Eng.we_isB ?_ | refine Eng.we_isC ?_ | refine Eng.we_chn ?_ | refine Eng.we_slc ?_ | refine Eng.we_dget1 ?_ | refine Eng.we_dget2 ?_ | refine Eng.isd_of rfl ?_ | refine Eng.we_dsp ?_ | refine Eng.wd_cons ?_ | refine Eng.wd_nil ?_ | refine Eng.wo_no ?_ | refine Eng.wo_so ?_ | refine Eng.wts_nil ?_ | refine Eng.wts_one ?_ | refine Eng.wi_seq ?_ | refine Eng.wi_rng1 ?_ | refine Eng.wi_rng2 ?_ | refine Eng.wi_enum ?_ | refine Eng.wi_zip ?_ | refine Eng.bo_addI ?_ | refine Eng.bo_subI ?_ | refine Eng.cm_ltI ?_ | refine Eng.cm_leI ?_ | refine Eng.cm_gtI ?_ | refine Eng.cm_geI ?_ | refine Eng.cm_eqI ?_ | refine Eng.cm_neI ?_ | refine Eng.cm_eqS ?_ | refine Eng.cm_neS ?_ | refine Eng.cm_isN ?_ | refine Eng.cm_isnotN ?_ | refine Eng.cm_inD rfl ?_ | refine Eng.cm_ninD rfl ?_ | refine Eng.cm_inTS ?_ | refine Eng.cm_inLS ?_ | refine Eng.cm_ninTS ?_ | refine Eng.cm_ninLS ?_ | refine Eng.ix_t0 ?_ | refine Eng.ix_t1 ?_ | refine Eng.ix_t2 ?_ | refine Eng.ix_t3 ?_ | refine Eng.ix_t4 ?_ | refine Eng.ix_l0 ?_ | refine Eng.ix_l1 ?_ | refine Eng.ix_l2 ?_ | refine Eng.ix_T (by with_reducible assumption) ?_ | refine Eng.ix_L (by with_reducible assumption) ?_ | refine Eng.in_of ?_ | refine Eng.tupn_of rfl ?_ | refine Eng.hd_of ?_ | refine Eng.dct_of ?_ | refine Eng.bo_mulI (by first | exact Eng.small_l (by first | decide | with_reducible assumption) | exact Eng.small_r (by first | decide | with_reducible assumption) | exact Eng.small_r (Eng.small_of' (by omega) (by omega)) | exact Eng.small_l (Eng.small_of' (by omega) (by omega))) ?_ | refine Eng.bo_fdiv (by first | decide | with_reducible assumption | exact Eng.nat31_of (by omega) (by omega)) ?_ | refine Eng.bo_mod (by first | decide | omega) ?_ | refine Eng.bo_addT (by first | with_reducible assumption | decide) ?_ | refine Eng.bo_addL (by first | with_reducible assumption | decide) ?_ | refine Eng.bo_addS (by first | with_reducible assumption | decide) ?_ | refine Eng.bo_of (by with_reducible assumption) ?_ | refine Eng.cm_of (by with_reducible assumption) ?_ | refine Eng.ix_of (by with_reducible assumption) ?_ | refine Eng.sl_of (by with_reducible assumption) ?_ | refine Eng.bl_of (by with_reducible assumption) ?_ | refine Eng.bl_divmod (by first | decide | with_reducible assumption | exact Eng.nat31_of (by omega) (by omega)) ?_ | refine Eng.fd_of (by with_reducible assumption) ?_ | refine Eng.me_of (by with_reducible assumption) ?_ | refine Eng.call_plain rfl rfl ?_ | refine Eng.call_well rfl (fun _ => rfl) ?_ | refine Eng.set_l0 ?_ | refine Eng.set_l1 ?_ | refine Eng.set_l2 ?_ | (apply Eng.stw_v; · (repeat (first | exact Eng.put_z rfl | exact Eng.put_z (by with_reducible assumption) | apply Eng.put_s))) | (apply Eng.stw_o; · (repeat (first | exact Eng.put_z rfl | exact Eng.put_z (by with_reducible assumption) | apply Eng.put_s))) | (apply Eng.stw_val rfl; · (repeat (first | exact Eng.put_z rfl | exact Eng.put_z (by with_reducible assumption) | apply Eng.put_s))) | (apply Eng.stw_own rfl; · (repeat (first | exact Eng.set_z | apply Eng.set_s)); · (repeat (first | exact Eng.put_z rfl | exact Eng.put_z (by with_reducible assumption) | apply Eng.put_s))) | refine Eng.stws_nil ?_ | (apply Eng.stws_cons; · (repeat (first | exact Eng.put_z rfl | exact Eng.put_z (by with_reducible assumption) | apply Eng.put_s))) | refine Eng.tgw_nil ?_ | (apply Eng.tgw_nm; · (repeat (first | exact Eng.put_z rfl | exact Eng.put_z (by with_reducible assumption) | apply Eng.put_s))) | refine Eng.tgw_sub ?_ | (apply Eng.wrw_own rfl; · (repeat (first | exact Eng.set_z | apply Eng.set_s))) | (apply Eng.wrw_lent rfl; · (repeat (first | exact Eng.set_z | apply Eng.set_s))) | refine Eng.mvw_v ?_ | refine Eng.mvw_o ?_ | refine Eng.mvw_val rfl ?_ | (apply Eng.mvw_own rfl; · (repeat (first | exact Eng.set_z | apply Eng.set_s))))
local macro_rules | `(tactic| array_mem_dec) => `(tactic| first | refine Eng.fd_of rfl ?_ | refine Eng.me_of rfl ?_ | refine Eng.wc_of (by with_reducible assumption) ?_ | refine Eng.sm_of rfl ?_ | refine Eng.sm_of (by with_reducible assumption) ?_ | refine Eng.tr_of rfl ?_ | refine Eng.tr_of (by with_reducible assumption) ?_ | refine Eng.bl_of rfl ?_ | refine Eng.sl_of rfl ?_ | refine Eng.bo_of rfl ?_ | refine Eng.cm_of rfl ?_ | refine Eng.ix_of rfl ?_ | refine Eng.outs_of rfl ?_ | refine Eng.ifb_t (by first | rfl | with_reducible assumption | (simp only [Bool.not_eq_true']; with_reducible assumption) | (simp only [decide_eq_true_eq, beq_iff_eq, Bool.not_eq_true', bne_iff_ne, decide_eq_false_iff_not, beq_eq_false_iff_ne, ne_eq]; omega) | decide) ?_ | refine Eng.ifb_f (by first | rfl | with_reducible assumption | (simp only [Bool.not_eq_false']; with_reducible assumption) | (simp only [decide_eq_false_iff_not, beq_eq_false_iff_ne, Bool.not_eq_false', ne_eq, beq_iff_eq, decide_eq_true_eq]; omega) | decide) ?_ | exact ⟨rfl, rfl⟩ | exact rfl | (refine Eng.ifb_s (fun hc => ?_) (fun hc => ?_) <;> (try simp only [decide_eq_true_eq, decide_eq_false_iff_not, beq_iff_eq, beq_eq_false_iff_ne, ne_eq, Bool.not_eq_true', Bool.not_eq_false', Int.not_lt, Int.not_le] at hc)))
namespace Law
open Eng PySem
theorem s_rig (k : Nat) (w0 w1 w2 most : Int) {Q : RV → List Val → Prop} (h1 : 1 ≤ most) (h8 : most ≤ 8) (q : ∀ g a b c, g.Ok → (g.chs.length : Int) ≤ most → Q (.v (rigT g)) [wl a b c, .int most]) : WC (Fk D (k+5) i__law_rig) [.lent (wl w0 w1 w2), .val (.int most)] Q := by
  refine wc_fn (F__law_rig _ _) rfl (by simp only [startE, slotOf, List.map, List.length, List.replicate, List.cons_append, List.nil_append, List.length_cons, List.length_nil, Nat.reduceAdd, Nat.reduceSub]; rfl) ?_; show WB D _ B__law_rig _ _ _ _ _; unfold B__law_rig
  (repeat' (first | array_get_dec | (refine s_take _ _ _ _ _ (by omega) (by omega) (fun r wa wb wc hr0 hr1 => ?_)) | (refine s_names _ _ _ _ _ (by omega) (by omega) (fun l na nb nc hl1 hl2 hl3 => ?_)) | (refine s_pickI _ _ _ _ [9, 4, 1, 2, 1 + r] (by simp) (by simp) (fun top pa pb pc htop => ?_)) | array_mem_dec))
  have ht : 1 ≤ top ∧ top ≤ 9 := by
    simp at htop
    omega
  exact q ⟨l, top⟩ _ _ _ ⟨hl2, hl3, by simp only; omega, by simp only; omega, ht.1, ht.2⟩ (by simp only; omega)
theorem s_cues (k : Nat) (w0 w1 w2 : Int) (g : RG) (hg : g.Ok) (many : Nat) {Q : RV → List Val → Prop} (hm : many ≤ 20) (q : ∀ cs a b c, LOk g cs → cs.length = many → Q (.v (.tup (cs.map CU.v))) [wl a b c, rigT g, .int (many : Int)]) : WC (Fk D (k+3) i__law_cues) [.lent (wl w0 w1 w2), .val (rigT g), .val (.int (many : Int))] Q := by
  refine wc_fn (F__law_cues _ _) rfl (by simp only [startE, slotOf, List.map, List.length, List.replicate, List.cons_append, List.nil_append, List.length_cons, List.length_nil, Nat.reduceAdd, Nat.reduceSub]; rfl) ?_; show WB D _ B__law_cues _ _ _ _ _; unfold B__law_cues
  have t1 := hg.t1
  have t9 := hg.t9
  have l8 := hg.l8
  (repeat' (first | array_get_dec | array_mem_dec))
  refine ws_forF (fun i ε => ∃ a b c s3, ∃ num : Int, ∃ cs : List CU, ∃ s6 s7 s8, ε = [.lent (wl a b c), .val (rigT g), .val (.int (many : Int)), s3, .own (.lst (cs.map CU.v)), .val (.int num), s6, s7, s8, .un] ∧ free s3 = true ∧ free s6 = true ∧ free s7 = true ∧ free s8 = true ∧ LOk g cs ∧ cs.length = i ∧ 0 ≤ num ∧ num ≤ 40 * i ∧ ∀ c ∈ cs, c.num ≤ num) ?_
  (repeat' (first | array_get_dec | array_mem_dec))
  refine ⟨inR_of (by omega) (by omega), rfl, ⟨w0, w1, w2, _, 0, [], _, _, _, rfl, rfl, rfl, rfl, rfl, ⟨(fun _ h => nomatch h), List.Pairwise.nil, by simp⟩, rfl, by decide, by decide, (fun _ h => nomatch h)⟩, ?_, ?_⟩
  · rintro j x ε2 hx ⟨a, b, c, s3, num, cs, s6, s7, s8, rfl, f3, f6, f7, f8, hcs, hlen, hn0, hn1, hnum⟩
    have hj : j < (rangeV 0 (many : Int)).length := by
      rcases Nat.lt_or_ge j (rangeV 0 (many : Int)).length with g | g
      · exact g
      · rw [List.getElem?_eq_none g] at hx; cases hx
    rw [range_len] at hj
    refine ⟨_, tg_one (by (repeat (first | exact put_z rfl | exact put_z (by with_reducible assumption) | apply put_s))), ?_⟩
    refine wb_cut (fun ε => ∃ a b c, ∃ num' : Int, ε = [.lent (wl a b c), .val (rigT g), .val (.int (many : Int)), .val x, .own (.lst (cs.map CU.v)), .val (.int num'), s6, s7, s8, .un] ∧ num < num' ∧ num' ≤ num + 40) ?_ ?_
    · (repeat' (first | array_get_dec | (refine s_take _ _ _ _ _ (by omega) (by omega) (fun r wa wb wc hr0 hr1 => ?_)) | (refine s_pickI _ _ _ _ [0, 0, 9, r] (by simp) (by simp) (fun y pa pb pc hy => ?_)) | array_mem_dec))
      have hy : 0 ≤ y ∧ y ≤ 39 := by
        simp at hy
        omega
      exact ⟨_, _, _, _, rfl, by omega, by omega⟩
    rintro ε1 ⟨a, b, c, num', rfl, n1, n2⟩
    refine wb_cut (fun ε => ∃ a b c, ∃ share : Int, ε = [.lent (wl a b c), .val (rigT g), .val (.int (many : Int)), .val x, .own (.lst (cs.map CU.v)), .val (.int num'), .val (.int share), s7, s8, .un] ∧ 1 ≤ share ∧ share ≤ 3) ?_ ?_
    · (repeat' (first | array_get_dec | (refine s_pickI _ _ _ _ [1, 2, 3] (by simp) (by simp) (fun y pa pb pc hy => ?_)) | array_mem_dec))
      have hy : 1 ≤ y ∧ y ≤ 3 := by
        simp at hy
        omega
      exact ⟨_, _, _, _, rfl, hy.1, hy.2⟩
    rintro ε1 ⟨a, b, c, share, rfl, sh1, sh2⟩
    refine wb_cut (fun ε => ∃ a b c, ∃ mv : List (Str × Int), ε = [.lent (wl a b c), .val (rigT g), .val (.int (many : Int)), .val x, .own (.lst (cs.map CU.v)), .val (.int num'), .val (.int share), .val (.tup (mv.map mvV)), s8, .un] ∧ (∀ m ∈ mv, m.1 ∈ g.chs ∧ 0 ≤ m.2 ∧ m.2 ≤ g.top) ∧ (mv.map (·.1)).Sublist g.chs) ?_ ?_
    · unfold rigT
      (repeat' (first | array_get_dec | array_mem_dec))
      refine we_lcS (fun i ys ε => ∃ a b c s, ∃ mv : List (Str × Int), ε = [.lent (wl a b c), .val (.tup [g.nv, .int g.top]), .val (.int (many : Int)), .val x, .own (.lst (cs.map CU.v)), .val (.int num'), .val (.int share), s7, s8, s] ∧ ys = mv.map mvV ∧ (∀ m ∈ mv, m.1 ∈ g.chs ∧ 0 ≤ m.2 ∧ m.2 ≤ g.top) ∧ (mv.map (·.1)).Sublist (g.chs.take i)) ?_
      (repeat' (first | array_get_dec | array_mem_dec))
      refine ⟨rfl, by rw [List.length_map]; exact cap_of (by omega), ⟨a, b, c, _, [], rfl, rfl, (fun _ h => nomatch h), by simp⟩, ?_, ?_⟩
      · rintro i y acc ε hy ⟨a, b, c, s, mv, rfl, rfl, hmk, hsub⟩
        rw [List.getElem?_map] at hy
        cases e : g.chs[i]? with
        | none => rw [e] at hy; cases hy
        | some ch =>
          rw [e] at hy
          cases hy
          have htk : g.chs.take i ++ [ch] = g.chs.take (i + 1) := by
            rw [List.take_succ, e]; rfl
          refine ⟨_, _, wipe_cons wipe_nil (by (repeat (first | exact set_z | apply set_s))), tg_one (by (repeat (first | exact put_z rfl | exact put_z (by with_reducible assumption) | apply put_s))), ?_⟩
          (repeat' (first | array_get_dec | (refine s_take _ _ _ _ _ (by omega) (by omega) (fun r wa wb wc hr0 hr1 => ?_)) | (refine s_pickI _ _ _ _ [0, g.top, r] (by simp) (by simp) (fun lv pa pb pc hlv => ?_)) | array_mem_dec))
          · have hlv : 0 ≤ lv ∧ lv ≤ g.top := by
              simp at hlv
              omega
            refine ⟨_, _, _, _, mv ++ [(ch, lv)], rfl, by simp [mvV], ?_, ?_⟩
            · intro m hm'
              rcases List.mem_append.mp hm' with hm' | hm'
              · exact hmk m hm'
              · simp at hm'
                subst hm'
                exact ⟨List.mem_of_getElem? e, hlv⟩
            · rw [List.map_append, ← htk]
              exact List.Sublist.append hsub (List.Sublist.refl _)
          · refine ⟨_, _, _, _, mv, rfl, rfl, hmk, ?_⟩
            rw [← htk]
            exact List.Sublist.trans hsub (List.sublist_append_left _ _)
      · rintro ys ε2 ⟨a, b, c, s, mv, rfl, rfl, hmk, hsub⟩
        (repeat' (first | array_get_dec | array_mem_dec))
        refine ⟨_, _, _, mv, rfl, hmk, ?_⟩
        rw [List.length_map, List.take_length] at hsub
        exact hsub
    rintro ε1 ⟨a, b, c, mv, rfl, hmk, hsub⟩
    refine wb_cut (fun ε => ∃ a b c, ∃ fo : Option Int, ε = [.lent (wl a b c), .val (rigT g), .val (.int (many : Int)), .val x, .own (.lst (cs.map CU.v)), .val (.int num'), .val (.int share), .val (.tup (mv.map mvV)), .val (folV fo), .un] ∧ ∀ i, fo = some i → 1 ≤ i ∧ i ≤ 5) ?_ ?_
    · (repeat' (first | array_get_dec | (refine s_take _ _ _ _ _ (by omega) (by omega) (fun r wa wb wc hr0 hr1 => ?_)) | array_mem_dec))
      · exact ⟨_, _, _, some (1 + r), rfl, fun i h => by cases h; omega⟩
      · exact ⟨_, _, _, none, rfl, fun i h => by cases h⟩
    rintro ε1 ⟨a, b, c, fo, rfl, hfo⟩
    (repeat' (first | array_get_dec | (refine s_take _ _ _ _ _ (by omega) (by omega) (fun r wa wb wc hr0 hr1 => ?_)) | (refine s_pickI _ _ _ _ [0, 1, 5, r] (by simp) (by simp) (fun fd pa pb pc hfd => ?_)) | array_mem_dec))
    have hfd : 0 ≤ fd ∧ fd ≤ 5 := by
      simp at hfd
      omega
    generalize (r == 0) = wh
    refine ⟨by rw [List.length_map]; exact cap_lt (by omega), ?_⟩
    (repeat' (first | array_get_dec | array_mem_dec))
    refine ⟨_, _, _, _, num', cs ++ [⟨num', mv, fd, fo, wh⟩], _, _, _, by rw [List.map_append]; rfl, rfl, rfl, rfl, by cases fo <;> rfl, ?_, by simp [hlen], by omega, by push_cast; omega, ?_⟩
    · refine ⟨?_, ?_, by simp; omega⟩
      · intro c hc
        rcases List.mem_append.mp hc with hc | hc
        · exact hcs.ok c hc
        · simp at hc
          subst hc
          have hl := hsub.length_le
          rw [List.length_map] at hl
          refine ⟨by simp only; omega, by simp only; omega, hmk, ?_, by simp only; omega, hfd.1, hfd.2, hfo⟩
          have := hg.asc.sublist hsub
          rw [List.pairwise_map] at this
          exact this
      · rw [List.pairwise_append]
        refine ⟨hcs.asc, by simp, ?_⟩
        intro a ha b hb
        simp at hb
        subst hb
        have := hnum a ha
        simp only
        omega
    · intro c hc
      rcases List.mem_append.mp hc with hc | hc
      · have := hnum c hc
        omega
      · simp at hc
        subst hc
        simp only
        omega
  · rintro ε2 ⟨a, b, c, s3, num, cs, s6, s7, s8, rfl, f3, f6, f7, f8, hcs, hlen, hn0, hn1, hnum⟩
    rw [range_len] at hlen
    (repeat' (first | array_get_dec | array_mem_dec))
    exact q cs _ _ _ hcs (by omega)
end Law
end
section
set_option Elab.async false
set_option linter.all false
set_option maxRecDepth 100000
set_option maxHeartbeats 4000000
set_option hygiene false
local macro_rules | `(tactic| array_get_dec) => `(tactic| first | refine Eng.wb_cons ?_ | refine Eng.ws_asg ?_ | refine Eng.ws_ret ?_ | refine Eng.ws_ife ?_ | refine Eng.ws_asgT ?_ | refine Eng.ws_par ?_ | refine Eng.ws_exp ?_ | refine Eng.wb_nil ?_ | refine Eng.ws_pass ?_ | refine Eng.ws_retN ?_ | refine Eng.ws_subS ?_ | refine Eng.ws_fldS ?_ | refine Eng.ws_app rfl ?_ | refine Eng.ws_brk ?_ | refine Eng.ws_cont ?_ | refine Eng.wv_of ?_ | refine Eng.wn_of ?_ | refine Eng.wt_of ?_ | refine Eng.we_var rfl ?_ | refine Eng.lk_of rfl ?_ | refine Eng.we_lit ?_ | refine Eng.fzw_v ?_ | refine Eng.fzw_val rfl ?_ | refine Eng.fzw_o ?_ | (apply Eng.fzw_own rfl; · (repeat (first | exact Eng.set_z | apply Eng.set_s))) | refine Eng.wf_cons ?_ | refine Eng.wf_nil ?_ | refine Eng.wa_cons ?_ | refine Eng.wa_nil ?_ | refine Eng.we_tup ?_ | refine Eng.we_ix ?_ | refine Eng.we_bin ?_ | refine Eng.we_cmp ?_ | refine Eng.we_fld ?_ | refine Eng.we_call ?_ | refine Eng.we_meth ?_ | refine Eng.we_blt ?_ | refine Eng.we_lst ?_ | refine Eng.we_ife ?_ | refine Eng.we_and2 ?_ | refine Eng.we_or2 ?_ | refine Eng.we_not ?_ | refine Eng.we_neg ?_ | refine Eng.we_isB ?_ | refine Eng.we_isC ?_ | refine Eng.we_chn ?_ | refine Eng.we_slc ?_ | refine Eng.we_dget1 ?_ | refine Eng.we_dget2 ?_ | refine Eng.isd_of rfl ?_ | refine Eng.we_dsp ?_ | refine Eng.wd_cons ?_ | refine Eng.wd_nil ?_ | refine Eng.wo_no ?_ | refine Eng.wo_so ?_ | refine Eng.wts_nil ?_ | refine Eng.wts_one ?_ | refine Eng.wi_seq ?_ | refine Eng.wi_rng1 ?_ | refine Eng.wi_rng2 ?_ | refine Eng.wi_enum ?_ | refine Eng.wi_zip ?_ | refine Eng.bo_addI ?_ | refine Eng.bo_subI ?_ | refine Eng.cm_ltI ?_ | refine Eng.cm_leI ?_ | refine Eng.cm_gtI ?_ | refine Eng.cm_geI ?_ | refine Eng.cm_eqI ?_ | refine Eng.cm_neI ?_ | refine Eng.cm_eqS ?_ | refine Eng.cm_neS ?_ | refine Eng.cm_isN ?_ | refine Eng.cm_isnotN ?_ | refine Eng.cm_inD rfl ?_ | refine Eng.cm_ninD rfl ?_ | refine Eng.cm_inTS ?_ | refine Eng.cm_inLS ?_ | refine Eng.cm_ninTS ?_ | refine Eng.cm_ninLS ?_ | refine Eng.ix_t0 ?_ | refine Eng.ix_t1 ?_ | refine Eng.ix_t2 ?_ | refine Eng.ix_t3 ?_ | refine Eng.ix_t4 ?_ | refine Eng.ix_l0 ?_ | refine Eng.ix_l1 ?_ | refine Eng.ix_l2 ?_ | refine Eng.ix_T (by with_reducible assumption) ?_ | refine Eng.ix_L (by with_reducible assumption) ?_ | refine Eng.in_of ?_ | refine Eng.tupn_of rfl ?_ | refine Eng.hd_of ?_ | refine Eng.dct_of ?_ | refine Eng.bo_mulI (by first | exact Eng.small_l (by first | decide | with_reducible assumption) | exact Eng.small_r (by first | decide | with_reducible assumption) | exact Eng.small_r (Eng.small_of' (by omega) (by omega)) | exact Eng.small_l (Eng.small_of' (by omega) (by omega))) ?_ | refine Eng.bo_fdiv (by first | decide | with_reducible assumption | exact Eng.nat31_of (by omega) (by omega)) ?_ | refine Eng.bo_mod (by first | decide | omega) ?_ | refine Eng.bo_addT (by first | with_reducible assumption | decide) ?_ | refine Eng.bo_addL (by first | with_reducible assumption | decide) ?_ | refine Eng.bo_addS (by first | with_reducible assumption | decide) ?_ | refine Eng.bo_of (by with_reducible assumption) ?_ | refine Eng.cm_of (by with_reducible assumption) ?_ | refine Eng.ix_of (by with_reducible assumption) ?_ | refine Eng.sl_of (by with_reducible assumption) ?_ | refine Eng.bl_of (by with_reducible assumption) ?_ | refine Eng.bl_divmod (by first | decide | with_reducible assumption | exact Eng.nat31_of (by omega) (by omega)) ?_ | refine Eng.fd_of (by with_reducible assumption) ?_ | refine Eng.me_of (by with_reducible assumption) ?_ | refine Eng.call_plain rfl rfl ?_ | refine Eng.call_well rfl (fun _ => rfl) ?_ | refine Eng.set_l0 ?_ | refine Eng.set_l1 ?_ | refine Eng.set_l2 ?_ | (apply Eng.stw_v; · (repeat (first | exact Eng.put_z rfl | exact Eng.put_z (by with_reducible assumption) | apply Eng.put_s))) | (apply Eng.stw_o; · (repeat (first | exact Eng.put_z rfl | exact Eng.put_z (by with_reducible assumption) | apply Eng.put_s))) | (apply Eng.stw_val rfl; · (repeat (first | exact Eng.put_z rfl | exact Eng.put_z (by with_reducible assumption) | apply Eng.put_s))) | (apply Eng.stw_own rfl; · (repeat (first | exact Eng.set_z | apply Eng.set_s)); · (repeat (first | exact Eng.put_z rfl | exact Eng.put_z (by with_reducible assumption) | apply Eng.put_s))) | refine Eng.stws_nil ?_ | (apply Eng.stws_cons; · (repeat (first | exact Eng.put_z rfl | exact Eng.put_z (by with_reducible assumption) | apply Eng.put_s))) | refine Eng.tgw_nil ?_ | (apply Eng.tgw_nm; · (repeat (first | exact Eng.put_z rfl | exact Eng.put_z (by with_reducible assumption) | apply Eng.put_s))) | refine Eng.tgw_sub ?_ | (apply Eng.wrw_own rfl; · (repeat (first | exact Eng.set_z | apply Eng.set_s))) | (apply Eng.wrw_lent rfl; · (repeat (first | exact Eng.set_z | apply Eng.set_s))) | refine Eng.mvw_v ?_ | refine Eng.mvw_o ?_ | refine Eng.mvw_val rfl ?_ | (apply Eng.mvw_own rfl; · (repeat (first | exact Eng.set_z | apply Eng.set_s))))
local macro_rules | `(tactic| array_mem_dec) => `(tactic| first | refine Eng.fd_of rfl ?_ | refine Eng.me_of rfl ?_ | refine Eng.wc_of (by with_reducible assumption) ?_ | refine Eng.sm_of rfl ?_ | refine Eng.sm_of (by with_reducible assumption) ?_ | refine Eng.tr_of rfl ?_ | refine Eng.tr_of (by with_reducible assumption) ?_ | refine Eng.bl_of rfl ?_ | refine Eng.sl_of rfl ?_ | refine Eng.bo_of rfl ?_ | refine Eng.cm_of rfl ?_ | refine Eng.ix_of rfl ?_ | refine Eng.outs_of rfl ?_ | refine Eng.ifb_t (by first | rfl | with_reducible assumption | (simp only [Bool.not_eq_true']; with_reducible assumption) | (simp only [decide_eq_true_eq, beq_iff_eq, Bool.not_eq_true', bne_iff_ne, decide_eq_false_iff_not, beq_eq_false_iff_ne, ne_eq]; omega) | decide) ?_ | refine Eng.ifb_f (by first | rfl | with_reducible assumption | (simp only [Bool.not_eq_false']; with_reducible assumption) | (simp only [decide_eq_false_iff_not, beq_eq_false_iff_ne, Bool.not_eq_false', ne_eq, beq_iff_eq, decide_eq_true_eq]; omega) | decide) ?_ | exact ⟨rfl, rfl⟩ | exact rfl | (refine Eng.ifb_s (fun hc => ?_) (fun hc => ?_) <;> (try simp only [decide_eq_true_eq, decide_eq_false_iff_not, beq_iff_eq, beq_eq_false_iff_ne, ne_eq, Bool.not_eq_true', Bool.not_eq_false', Int.not_lt, Int.not_le] at hc)))
namespace Law
open Eng PySem
/-! ### what places mean, told by the laws themselves -/
theorem dput_old {xs : List Str} {f : Str → Int} {n : Str} {v : Int} (h : n ∈ xs) : dput (xs.map fun s => ((.inr s : L2.Key), Val.int (f s))) (.inr n) (.int v) = xs.map fun s => (.inr s, .int (if s = n then v else f s)) := by
  unfold dput
  have : ((xs.map fun s => ((.inr s : L2.Key), Val.int (f s))).any fun kv => decide (kv.1 = .inr n)) = true := by
    rw [List.any_eq_true]
    exact ⟨(.inr n, .int (f n)), List.mem_map.mpr ⟨n, h, rfl⟩, by simp⟩
  rw [if_pos this, List.map_map]
  refine List.map_congr_left fun s hs => ?_
  show (if (Sum.inr s : L2.Key) = .inr n then ((.inr s : L2.Key), Val.int v) else (.inr s, .int (f s))) = _
  by_cases e : s = n
  · rw [if_pos (congrArg Sum.inr e), if_pos e]
  · rw [if_neg (fun h => e (Sum.inr.inj h)), if_neg e]
def chD (chs : List Str) (f : Str → Int) : Val := .dct (chs.map fun s => ((.inr s : L2.Key), Val.int (f s)))
def fldM (mv : List (Str × Int)) (f : Str → Int) : Str → Int := fun s => (lookM mv s).getD (f s)
theorem lookM_snoc (l : List (Str × Int)) (m : Str × Int) (s : Str) : lookM (l ++ [m]) s = (lookM l s).or (if m.1 = s then some m.2 else none) := by
  unfold lookM
  rw [List.find?_append]
  cases e : l.find? fun m => decide (m.1 = s) with
  | some q => rfl
  | none =>
    by_cases h : m.1 = s
    · simp [h]
    · simp [h]
theorem lookM_none {l : List (Str × Int)} {s : Str} (h : ∀ m ∈ l, m.1 ≠ s) : lookM l s = none := by
  unfold lookM
  rw [List.find?_eq_none.mpr (fun m hm => by simpa using h m hm)]
  rfl
theorem fldM_snoc {l : List (Str × Int)} {m : Str × Int} (h : ∀ x ∈ l, x.1 ≠ m.1) (f : Str → Int) : (fun s => if s = m.1 then m.2 else fldM l f s) = fldM (l ++ [m]) f := by
  funext s
  unfold fldM
  rw [lookM_snoc]
  by_cases e : s = m.1
  · subst e
    rw [lookM_none h]
    simp
  · rw [if_neg e, if_neg (fun h => e h.symm)]
    simp
theorem behindM_map (chs : List Str) (f : Str → Int) (c : CU) : behindM chs (chs.map f) c = chs.map (fldM c.mv f) := by
  unfold behindM
  induction chs with
  | nil => rfl
  | cons s chs ih =>
    rw [List.map_cons, List.zip_cons_cons, List.map_cons, List.map_cons, ih]
    rfl
theorem getElem?_lt {α : Type} {l : List α} {i : Nat} {a : α} (h : l[i]? = some a) : i < l.length := by
  rcases Nat.lt_or_ge i l.length with g | g
  · exact g
  · rw [List.getElem?_eq_none g] at h; cases h
theorem slice_take {α : Type} (f : α → Val) (l : List α) (i : Nat) (h : i ≤ l.length) : slice (.tup (l.map f)) none (some (i : Int)) = some (.v (.tup ((l.take i).map f))) := by
  have z : HT.sIx (l.map f).length 0 none = 0 := rfl
  have z2 : HT.sIx (l.map f).length (l.map f).length (some (i : Int)) = i := by
    rw [HT.sIx_nat, List.length_map]
    omega
  simp only [slice, cutW, z, z2, Nat.sub_zero, List.drop_zero, List.map_take]
theorem chs_nodup {g : RG} (h : g.Ok) : g.chs.Nodup := by
  refine h.asc.imp fun {a b} hlt e => ?_
  rw [e] at hlt
  exact List.lt_irrefl _ hlt
theorem take_snoc {α : Type} {l : List α} {i : Nat} {a : α} (h : l[i]? = some a) : l.take (i + 1) = l.take i ++ [a] := by
  rw [List.take_succ, h]; rfl
theorem not_take {α : Type} {l : List α} (hn : l.Nodup) {i : Nat} {a : α} (h : l[i]? = some a) : a ∉ l.take i := by
  intro hm
  have h2 : (l.take (i + 1)).Nodup := hn.sublist (List.take_sublist _ _)
  rw [take_snoc h, List.nodup_append] at h2
  exact h2.2.2 a hm a (by simp) rfl
theorem e_means (k : Nat) (g : RG) (cs : List CU) (hg : g.Ok) (hc : LOk g cs) (i : Nat) (hi : i ≤ cs.length) : Fk D (k+1) i__law_means [.val (rigT g), .val (.tup (cs.map CU.v)), .val (.int ((i : Int) - 1))] = some (.v (lvV (meanAt g cs i)), [rigT g, .tup (cs.map CU.v), .int ((i : Int) - 1)]) := by
  refine wc_eq ?_
  refine wc_fn (F__law_means _ _) rfl (by simp only [startE, slotOf, List.map, List.length, List.replicate, List.cons_append, List.nil_append, List.length_cons, List.length_nil, Nat.reduceAdd, Nat.reduceSub]; rfl) ?_; show WB D _ B__law_means _ _ _ _ _; unfold B__law_means
  have l20 := hc.len
  have l8 := hg.l8
  have hsl := slice_take CU.v cs i hi
  rw [show (i : Int) = (i : Int) - 1 + 1 by omega] at hsl
  have hset : ∀ (xs : List Str) (f : Str → Int) (n : Str) (v : Int), xs.length ≤ 8 → n ∈ xs → setItem (chD xs f) (.str n) (.int v) = some (chD xs fun s => if s = n then v else f s) := fun xs f n v hl hn => by
    unfold chD
    simp only [Eng.setItem, keyOf]
    rw [if_pos (by rw [List.length_map]; exact cap_lt (by omega)), dput_old hn]
  have hnew : ∀ (j : Nat) (n : Str), g.chs[j]? = some n → setItem (chD (g.chs.take j) fun _ => 0) (.str n) (.int 0) = some (chD (g.chs.take (j + 1)) fun _ => 0) := fun j n h => by
    unfold chD
    simp only [Eng.setItem, keyOf]
    have hj := getElem?_lt h
    rw [if_pos (by rw [List.length_map, List.length_take]; exact cap_lt (by omega)), dput_new, take_snoc h, List.map_append]
    · rfl
    · intro hm
      rw [List.map_map] at hm
      obtain ⟨m, hm2, e⟩ := List.mem_map.mp hm
      have e : m = n := Sum.inr.inj e
      rw [e] at hm2
      exact not_take (chs_nodup hg) h hm2
  unfold rigT
  refine wb_cut2 (fun ε => ∃ s4, free s4 = true ∧ ε = [.val (.tup [g.nv, .int g.top]), .val (.tup (cs.map CU.v)), .val (.int ((i : Int) - 1)), .own (chD g.chs fun _ => 0), s4, .un, .un]) ?_ ?_
  · (repeat' (first | array_get_dec | array_mem_dec))
    refine ws_forF (fun j ε => ∃ s4, free s4 = true ∧ ε = [.val (.tup [g.nv, .int g.top]), .val (.tup (cs.map CU.v)), .val (.int ((i : Int) - 1)), .own (chD (g.chs.take j) fun _ => 0), s4, .un, .un]) ?_
    (repeat' (first | array_get_dec | array_mem_dec))
    refine ⟨rfl, ⟨_, rfl, rfl⟩, ?_, ?_⟩
    · rintro j x ε2 hx ⟨s4, f4, rfl⟩
      rw [List.getElem?_map] at hx
      cases e : g.chs[j]? with
      | none => rw [e] at hx; cases hx
      | some n =>
        rw [e] at hx
        cases hx
        have hs := hnew j n e
        refine ⟨_, tg_one (by (repeat (first | exact put_z rfl | exact put_z (by with_reducible assumption) | apply put_s))), ?_⟩
        (repeat' (first | array_get_dec | array_mem_dec))
        exact ⟨_, rfl, rfl⟩
    · rintro ε2 ⟨s4, f4, rfl⟩
      (repeat' (first | array_get_dec | array_mem_dec))
      rw [List.length_map, List.take_length]
      exact ⟨_, f4, rfl⟩
  rintro ε1 ⟨s4, f4, rfl⟩
  refine wb_cut (fun ε => ∃ f s4 s5 s6, meanAt g cs i = g.chs.map f ∧ free s4 = true ∧ free s5 = true ∧ free s6 = true ∧ ε = [.val (.tup [g.nv, .int g.top]), .val (.tup (cs.map CU.v)), .val (.int ((i : Int) - 1)), .own (chD g.chs f), s4, s5, s6]) ?_ ?_
  · (repeat' (first | array_get_dec | array_mem_dec))
    refine ws_forF (fun j ε => ∃ f s4 s5 s6, meanAt g cs j = g.chs.map f ∧ free s4 = true ∧ free s5 = true ∧ free s6 = true ∧ ε = [.val (.tup [g.nv, .int g.top]), .val (.tup (cs.map CU.v)), .val (.int ((i : Int) - 1)), .own (chD g.chs f), s4, s5, s6]) ?_
    (repeat' (first | array_get_dec | array_mem_dec))
    refine ⟨rfl, ⟨_, _, _, _, (show meanAt g cs 0 = g.chs.map (fun _ => (0 : Int)) from List.map_const'.symm), f4, rfl, rfl, rfl⟩, ?_, ?_⟩
    · rintro j x ε2 hx ⟨f, s4, s5, s6, hm, f4, f5, f6, rfl⟩
      rw [List.getElem?_map] at hx
      cases e0 : (cs.take i)[j]? with
      | none => rw [e0] at hx; cases hx
      | some c =>
        rw [e0] at hx
        cases hx
        have hji := getElem?_lt e0
        rw [List.length_take] at hji
        have e : cs[j]? = some c := by
          rw [List.getElem?_take_of_lt (by omega)] at e0
          exact e0
        have hcok := hc.ok c (List.mem_of_getElem? e)
        refine ⟨_, tg_one (by (repeat (first | exact put_z rfl | exact put_z (by with_reducible assumption) | apply put_s))), ?_⟩
        unfold CU.v
        (repeat' (first | array_get_dec | array_mem_dec))
        refine ws_forF (fun m ε => ∃ s4 s6, free s4 = true ∧ free s6 = true ∧ ε = [.val (.tup [g.nv, .int g.top]), .val (.tup (cs.map CU.v)), .val (.int ((i : Int) - 1)), .own (chD g.chs (fldM (c.mv.take m) f)), s4, .val (.tup [.int c.num, .tup (c.mv.map mvV), .int c.fade, folV c.fol, .bl c.wh]), s6]) ?_
        (repeat' (first | array_get_dec | array_mem_dec))
        refine ⟨rfl, ⟨_, _, f4, f6, rfl⟩, ?_, ?_⟩
        · rintro m x ε2 hx ⟨s4, s6, f4, f6, rfl⟩
          rw [List.getElem?_map] at hx
          cases e1 : c.mv[m]? with
          | none => rw [e1] at hx; cases hx
          | some q =>
            rw [e1] at hx
            cases hx
            have hne : ∀ x ∈ c.mv.take m, x.1 ≠ q.1 := by
              intro x hx he
              have h2 : (c.mv.take (m + 1)).Pairwise fun a b => a.1.cps.toList < b.1.cps.toList := hcok.ma.sublist (List.take_sublist _ _)
              rw [take_snoc e1, List.pairwise_append] at h2
              have := h2.2.2 x hx q (by simp)
              rw [he] at this
              exact List.lt_irrefl _ this
            have hs := hset g.chs (fldM (c.mv.take m) f) q.1 q.2 l8 (hcok.mks q (List.mem_of_getElem? e1)).1
            rw [fldM_snoc hne, ← take_snoc e1] at hs
            refine ⟨_, tg_two (by (repeat (first | exact put_z rfl | exact put_z (by with_reducible assumption) | apply put_s))) (by (repeat (first | exact put_z rfl | exact put_z (by with_reducible assumption) | apply put_s))), ?_⟩
            (repeat' (first | array_get_dec | array_mem_dec))
            exact ⟨_, _, rfl, rfl, rfl⟩
        · rintro ε2 ⟨s4, s6, f4, f6, rfl⟩
          rw [List.length_map, List.take_length]
          (repeat' (first | array_get_dec | array_mem_dec))
          exact ⟨fldM c.mv f, _, _, _, by rw [meanAt_succ g cs j c e, hm, behindM_map], f4, rfl, f6, rfl⟩
    · rintro ε2 ⟨f, s4, s5, s6, hm, f4, f5, f6, rfl⟩
      rw [List.length_map, List.length_take, Nat.min_eq_left hi] at hm
      (repeat' (first | array_get_dec | array_mem_dec))
      exact ⟨f, _, _, _, hm, f4, f5, f6, rfl⟩
  rintro ε1 ⟨f, s4, s5, s6, hm, f4, f5, f6, rfl⟩
  rw [hm]
  (repeat' (first | array_get_dec | array_mem_dec))
  refine we_lcD g.chs Val.str (fun _ => true) (fun s => .int (f s)) ?_
  (repeat' (first | array_get_dec | array_mem_dec))
  refine ⟨rfl, cap_of (by omega), ⟨_, rfl, fun n hn => ?_⟩, ?_⟩
  · have hit : item D.kds (chD g.chs f) (.str n) = some (.int (f n)) := by
      unfold chD
      simp only [item, keyOf]
      have key : ∀ l : List Str, n ∈ l → dget (l.map fun s => ((.inr s : L2.Key), Val.int (f s))) (.inr n) = some (.int (f n)) := by
        intro l
        induction l with
        | nil => intro h; cases h
        | cons s l ih =>
          intro h
          unfold dget at ih ⊢
          rw [List.map_cons, List.find?_cons]
          by_cases e : s = n
          · subst e; simp
          · have e2 : decide ((Sum.inr s : L2.Key) = .inr n) = false := by
              rw [decide_eq_false_iff_not]
              exact fun h => e (Sum.inr.inj h)
            rw [e2]
            rcases List.mem_cons.mp h with h | h
            · exact absurd h.symm e
            · exact ih h
      rw [key _ hn]
      try rfl
    refine ⟨_, tg_one (by (repeat (first | exact put_z rfl | exact put_z (by with_reducible assumption) | apply put_s))), ?_⟩
    (repeat' (first | array_get_dec | array_mem_dec))
    refine ⟨rfl, ?_⟩
    (repeat' (first | array_get_dec | array_mem_dec))
  · rw [filter_true]
    unfold lvV
    rw [List.map_map]
    (repeat' (first | array_get_dec | array_mem_dec))
end Law
end
section
set_option Elab.async false
set_option linter.all false
set_option maxRecDepth 100000
set_option maxHeartbeats 4000000
namespace Law
open Eng PySem
/-! ### runs behind waits and backs -/
section
variable {g : RG} {cs : List CU} {bk : Int} {s : SG}
theorem follow_eq {cs : List CU} {p : Nat} {c : CU} (h : cs[p]? = some c) : followOf cs p = match c.fol with | none => -1 | some f => if p + 1 = cs.length then -1 else f := by
  unfold followOf
  rw [h]; rfl
theorem goal_list (hs : s.Ok g cs) (h : Goal g cs s) : s.runs.map (·.e) = meanAt g cs (s.place + 1).toNat := by
  refine List.ext_getElem? fun i => ?_
  rw [List.getElem?_map]
  cases e : s.runs[i]? with
  | some r => rw [h i r e]; rfl
  | none =>
    have h1 : s.runs.length ≤ i := List.getElem?_eq_none_iff.mp e
    rw [List.getElem?_eq_none (by rw [meanAt_len, ← hs.nr]; exact h1)]
    rfl
def tickN : Nat → Rn → Rn
  | 0, r => r
  | n + 1, r => tickR (tickN n r)
theorem tickR_rest (e : Int) : tickR (restR e) = restR e := by
  unfold tickR restR
  simp
theorem tickN_is {r : Rn} (h : r.Ok) : ∀ n : Nat, tickN n r = if r.a + n < r.l then ⟨r.x, r.e, r.a + n, r.l⟩ else restR r.e
  | 0 => by
    rcases h.c with c | ⟨c1, c2, c3⟩
    · rw [if_pos (by omega)]
      show r = _
      cases r
      simp
    · rw [if_neg (by omega)]
      show r = _
      unfold restR
      cases r
      simp at c1 c2 c3
      simp [c1, c2, c3]
  | n + 1 => by
    show tickR (tickN n r) = _
    rw [tickN_is h n]
    by_cases h1 : r.a + n < r.l
    · rw [if_pos h1]
      unfold tickR
      simp only
      rw [if_neg (by omega)]
      by_cases h2 : r.a + n + 1 < r.l
      · rw [if_pos h2, if_pos (by omega)]
        simp only [Rn.mk.injEq, true_and, and_true]
        omega
      · rw [if_neg h2, if_neg (by omega)]
    · rw [if_neg h1, if_neg (by omega), tickR_rest]
theorem zipIdx_mapA {α β : Type} (f : α → β) : ∀ (l : List α) (k : Nat), (l.zipIdx k).map (fun q => f q.1) = l.map f
  | [], _ => rfl
  | a :: l, k => by
    rw [List.zipIdx_cons, List.map_cons, zipIdx_mapA f l (k + 1)]
    rfl
theorem wait_runs (hd : s.due = -1) : stepS g cs bk s .wait = ⟨s.runs.map tickR, s.place, -1, s.held⟩ := by
  have hm : moveS g cs bk s.place s.due .wait = ⟨s.place, -1, .no⟩ := by
    show passS _ _ _ _ = _
    unfold passS
    rw [hd]
    rfl
  show SG.mk ((s.runs.zipIdx 0).map fun q => runB g cs .wait (moveS g cs bk s.place s.due .wait) q.2 q.1) (moveS g cs bk s.place s.due .wait).p (moveS g cs bk s.place s.due .wait).d s.held = _
  rw [hm]
  show SG.mk ((s.runs.zipIdx 0).map fun q => tickR q.1) s.place (-1) s.held = _
  rw [zipIdx_mapA]
theorem waits_runs (hd : s.due = -1) : ∀ n : Nat, lastS g cs bk s (List.replicate n .wait) = ⟨s.runs.map (tickN n), s.place, -1, s.held⟩
  | 0 => by
    show s = _
    rw [← hd]
    have : s.runs.map (tickN 0) = s.runs := by
      show s.runs.map (fun r => r) = _
      simp
    rw [this]
  | n + 1 => by
    rw [List.replicate_succ', lastS_snoc, waits_runs hd n, wait_runs rfl]
    simp only [List.map_map]
    rfl
theorem waits5 (hs : s.Ok g cs) (hG : Goal g cs s) (hd : s.due = -1) : lastS g cs bk s (List.replicate 5 .wait) = ⟨(meanAt g cs (s.place + 1).toNat).map restR, s.place, -1, s.held⟩ := by
  rw [waits_runs hd, ← goal_list hs hG, List.map_map]
  congr 1
  refine List.map_congr_left fun r hr => ?_
  have ho := hs.ro r hr
  rw [tickN_is ho, if_neg]
  · rfl
  · have := ho.a0
    have := ho.l5
    omega
/-- back from a place -/
theorem back_runs (hs : s.Ok g cs) (hp : 0 ≤ s.place) : stepS g cs bk s .bck = ⟨(s.runs.zip (meanAt g cs s.place.toNat)).map fun q => sentR q.1 q.2 bk, s.place - 1, -1, s.held⟩ := by
  have hm : moveS g cs bk s.place s.due .bck = ⟨s.place - 1, -1, .to (List.range g.chs.length) bk⟩ := by
    unfold moveS
    simp only
    rw [if_pos hp]
  show SG.mk ((s.runs.zipIdx 0).map fun q => runB g cs .bck (moveS g cs bk s.place s.due .bck) q.2 q.1) (moveS g cs bk s.place s.due .bck).p (moveS g cs bk s.place s.due .bck).d s.held = _
  rw [hm]
  have : ((s.runs.zipIdx 0).map fun q => runB g cs .bck ⟨s.place - 1, -1, .to (List.range g.chs.length) bk⟩ q.2 q.1) = (s.runs.zip (meanAt g cs s.place.toNat)).map fun q => sentR q.1 q.2 bk := by
    refine List.ext_getElem? fun i => ?_
    rw [List.getElem?_map, List.getElem?_map, List.getElem?_zipIdx]
    cases e : s.runs[i]? with
    | none =>
      have h1 : s.runs.length ≤ i := List.getElem?_eq_none_iff.mp e
      rw [List.getElem?_eq_none (by simp; omega)]
      rfl
    | some r =>
      have hi : i < g.chs.length := by rw [← hs.nr]; exact getElem?_lt e
      obtain ⟨l, hl⟩ := mean_get g cs s.place.toNat hi
      rw [(List.getElem?_zip_eq_some (z := (r, l))).mpr ⟨e, hl⟩]
      show some (runB g cs .bck ⟨s.place - 1, -1, .to (List.range g.chs.length) bk⟩ (0 + i) r) = some (sentR r l bk)
      rw [Nat.zero_add]
      unfold runB
      simp only
      rw [if_pos (List.mem_range.mpr hi), show (s.place - 1 + 1).toNat = s.place.toNat by omega, hl]
      rfl
  rw [this]
theorem back_idle (hp : ¬ 0 ≤ s.place) : stepS g cs bk s .bck = s := by
  have hm : moveS g cs bk s.place s.due .bck = ⟨s.place, s.due, .no⟩ := by
    unfold moveS
    simp only
    rw [if_neg hp]
  show SG.mk ((s.runs.zipIdx 0).map fun q => runB g cs .bck (moveS g cs bk s.place s.due .bck) q.2 q.1) (moveS g cs bk s.place s.due .bck).p (moveS g cs bk s.place s.due .bck).d s.held = _
  rw [hm]
  show SG.mk ((s.runs.zipIdx 0).map fun q => q.1) s.place s.due s.held = _
  rw [zipIdx_mapA (fun x => x)]
  simp
def Rest (s : SG) : Prop := ∀ r ∈ s.runs, r = restR r.e
theorem rest_back (hs : s.Ok g cs) (hr : Rest s) : Rest (stepS g cs 0 s .bck) := by
  by_cases hp : 0 ≤ s.place
  · rw [back_runs hs hp]
    intro r h
    obtain ⟨q, hq, rfl⟩ := List.mem_map.mp h
    have := hr q.1 (List.of_mem_zip hq).1
    unfold sentR
    split
    · exact this
    · rw [if_pos (.inl rfl)]
      rfl
  · rw [back_idle hp]
    exact hr
theorem held_stays (a : AC) (h : (∀ c l, a ≠ .hold c l) ∧ ∀ c, a ≠ .fre c) : (stepS g cs bk s a).held = s.held := by
  cases a with
  | hold c l => exact absurd rfl (h.1 c l)
  | fre c => exact absurd rfl (h.2 c)
  | _ => rfl
theorem held_rep (a : AC) (h : (∀ c l, a ≠ .hold c l) ∧ ∀ c, a ≠ .fre c) : ∀ n : Nat, (lastS g cs bk s (List.replicate n a)).held = s.held
  | 0 => rfl
  | n + 1 => by rw [List.replicate_succ', lastS_snoc, held_stays a h, held_rep a h n]
theorem rep_ok {a : AC} (ha : a.Ok g) (n : Nat) : AsOk g (List.replicate n a) := fun x hx => by rw [(List.mem_replicate.mp hx).2]; exact ha
theorem app_ok {as bs : List AC} (h1 : AsOk g as) (h2 : AsOk g bs) : AsOk g (as ++ bs) := fun x hx => (List.mem_append.mp hx).elim (h1 x) (h2 x)
theorem lastS_app (as bs : List AC) : lastS g cs bk s (as ++ bs) = lastS g cs bk (lastS g cs bk s as) bs := by
  unfold lastS
  rw [List.foldl_append]
theorem rest_backs (hg : g.Ok) (hc : LOk g cs) (hs : s.Ok g cs) (hr : Rest s) : ∀ n : Nat, Rest (lastS g cs 0 s (List.replicate n .bck))
  | 0 => hr
  | n + 1 => by
    rw [List.replicate_succ', lastS_snoc]
    exact rest_back (lastS_ok g cs 0 hg hc (by omega) (by omega) _ s hs (rep_ok (a := AC.bck) trivial n)) (rest_backs hg hc hs hr n)
theorem levR_rest (e : Int) : levR (restR e) = e := by
  unfold levR restR levelOf
  simp
theorem look_rest (hs : s.Ok g cs) (hG : Goal g cs s) (hr : Rest s) (hh : s.held = []) : lookS g s = meanAt g cs (s.place + 1).toNat := by
  rw [← goal_list hs hG]
  unfold lookS
  rw [hh]
  have key : ∀ (l : List Str) (rs : List Rn), rs.length = l.length → (∀ r ∈ rs, r = restR r.e) → ((l.zip rs).map fun p => (lookM [] p.1).getD (levR p.2)) = rs.map (·.e) := by
    intro l
    induction l with
    | nil =>
      intro rs h _
      cases rs with
      | nil => rfl
      | cons r rs => cases h
    | cons c l ih =>
      intro rs h hr
      cases rs with
      | nil => cases h
      | cons r rs =>
        rw [List.zip_cons_cons, List.map_cons, List.map_cons, ih rs (by simpa using h) (fun x hx => hr x (by simp [hx]))]
        have : levR r = r.e := by
          rw [hr r (by simp), levR_rest]
          rfl
        rw [← this]
        rfl
  exact key _ _ hs.nr hr
theorem gos_due : ∀ n : Nat, (lastS g cs bk (firstS g) (List.replicate n .go)).due = if 1 ≤ n ∧ 1 ≤ cs.length then followOf cs (min n cs.length - 1) else -1
  | 0 => by
    rw [if_neg (by omega)]
    rfl
  | n + 1 => by
    have ih := gos_due n
    have hp := gos_place (g := g) (cs := cs) (bk := bk) n
    rw [List.replicate_succ', lastS_snoc]
    generalize lastS g cs bk (firstS g) (List.replicate n .go) = t at *
    by_cases h : t.place + 1 < cs.length
    · obtain ⟨_, h2⟩ := step_go (g := g) (cs := cs) (bk := bk) (s := t) (p := min (n + 1) cs.length - 1) (by omega) (by omega)
      rw [h2, if_pos (by omega)]
    · obtain ⟨_, _, h2⟩ := step_leaves (g := g) (cs := cs) (bk := bk) (s := t) (a := .go) (.inr (.inr (.inr ⟨rfl, h⟩)))
      rw [h2, ih]
      by_cases hz : 1 ≤ cs.length
      · rw [if_pos (by omega), if_pos (by omega)]
        congr 1
        omega
      · rw [if_neg (by omega), if_neg (by omega)]
end
end Law
end
section
set_option Elab.async false
set_option linter.all false
set_option maxRecDepth 100000
set_option maxHeartbeats 4000000
set_option hygiene false
local macro_rules | `(tactic| array_get_dec) => `(tactic| first | refine Eng.wb_cons ?_ | refine Eng.ws_asg ?_ | refine Eng.ws_ret ?_ | refine Eng.ws_ife ?_ | refine Eng.ws_asgT ?_ | refine Eng.ws_par ?_ | refine Eng.ws_exp ?_ | refine Eng.wb_nil ?_ | refine Eng.ws_pass ?_ | refine Eng.ws_retN ?_ | refine Eng.ws_subS ?_ | refine Eng.ws_fldS ?_ | refine Eng.ws_app rfl ?_ | refine Eng.ws_brk ?_ | refine Eng.ws_cont ?_ | refine Eng.wv_of ?_ | refine Eng.wn_of ?_ | refine Eng.wt_of ?_ | refine Eng.we_var rfl ?_ | refine Eng.lk_of rfl ?_ | refine Eng.we_lit ?_ | refine Eng.fzw_v ?_ | refine Eng.fzw_val rfl ?_ | refine Eng.fzw_o ?_ | (apply Eng.fzw_own rfl; · (repeat (first | exact Eng.set_z | apply Eng.set_s))) | refine Eng.wf_cons ?_ | refine Eng.wf_nil ?_ | refine Eng.wa_cons ?_ | refine Eng.wa_nil ?_ | refine Eng.we_tup ?_ | refine Eng.we_ix ?_ | refine Eng.we_bin ?_ | refine Eng.we_cmp ?_ | refine Eng.we_fld ?_ | refine Eng.we_call ?_ | refine Eng.we_meth ?_ | refine Eng.we_blt ?_ | refine Eng.we_lst ?_ | refine Eng.we_ife ?_ | refine Eng.we_and2 ?_ | refine Eng.we_or2 ?_ | refine Eng.we_not ?_ | refine Eng.we_neg ?_ | refine Eng.we_isB ?_ | refine Eng.we_isC ?_ | refine Eng.we_chn ?_ | refine Eng.we_slc ?_ | refine Eng.we_dget1 ?_ | refine Eng.we_dget2 ?_ | refine Eng.isd_of rfl ?_ | refine Eng.we_dsp ?_ | refine Eng.wd_cons ?_ | refine Eng.wd_nil ?_ | refine Eng.wo_no ?_ | refine Eng.wo_so ?_ | refine Eng.wts_nil ?_ | refine Eng.wts_one ?_ | refine Eng.wi_seq ?_ | refine Eng.wi_rng1 ?_ | refine Eng.wi_rng2 ?_ | refine Eng.wi_enum ?_ | refine Eng.wi_zip ?_ | refine Eng.bo_addI ?_ | refine Eng.bo_subI ?_ | refine Eng.cm_ltI ?_ | refine Eng.cm_leI ?_ | refine Eng.cm_gtI ?_ | refine Eng.cm_geI ?_ | refine Eng.cm_eqI ?_ | refine Eng.cm_neI ?_ | refine Eng.cm_eqS ?_ | refine Eng.cm_neS ?_ | refine Eng.cm_isN ?_ | refine Eng.cm_isnotN ?_ | refine Eng.cm_inD rfl ?_ | refine Eng.cm_ninD rfl ?_ | refine Eng.cm_inTS ?_ | refine Eng.cm_inLS ?_ | refine Eng.cm_ninTS ?_ | refine Eng.cm_ninLS ?_ | refine Eng.ix_t0 ?_ | refine Eng.ix_t1 ?_ | refine Eng.ix_t2 ?_ | refine Eng.ix_t3 ?_ | refine Eng.ix_t4 ?_ | refine Eng.ix_l0 ?_ | refine Eng.ix_l1 ?_ | refine Eng.ix_l2 ?_ | refine Eng.ix_T (by with_reducible assumption) ?_ | refine Eng.ix_L (by with_reducible assumption) ?_ | refine Eng.in_of ?_ | refine Eng.tupn_of rfl ?_ | refine Eng.hd_of ?_ | refine Eng.dct_of ?_ | refine Eng.bo_mulI (by first | exact Eng.small_l (by first | decide | with_reducible assumption) | exact Eng.small_r (by first | decide | with_reducible assumption) | exact Eng.small_r (Eng.small_of' (by omega) (by omega)) | exact Eng.small_l (Eng.small_of' (by omega) (by omega))) ?_ | refine Eng.bo_fdiv (by first | decide | with_reducible assumption | exact Eng.nat31_of (by omega) (by omega)) ?_ | refine Eng.bo_mod (by first | decide | omega) ?_ | refine Eng.bo_addT (by first | with_reducible assumption | decide) ?_ | refine Eng.bo_addL (by first | with_reducible assumption | decide) ?_ | refine Eng.bo_addS (by first | with_reducible assumption | decide) ?_ | refine Eng.bo_of (by with_reducible assumption) ?_ | refine Eng.cm_of (by with_reducible assumption) ?_ | refine Eng.ix_of (by with_reducible assumption) ?_ | refine Eng.sl_of (by with_reducible assumption) ?_ | refine Eng.bl_of (by with_reducible assumption) ?_ | refine Eng.bl_divmod (by first | decide | with_reducible assumption | exact Eng.nat31_of (by omega) (by omega)) ?_ | refine Eng.fd_of (by with_reducible assumption) ?_ | refine Eng.me_of (by with_reducible assumption) ?_ | refine Eng.call_plain rfl rfl ?_ | refine Eng.call_well rfl (fun _ => rfl) ?_ | refine Eng.set_l0 ?_ | refine Eng.set_l1 ?_ | refine Eng.set_l2 ?_ | (apply Eng.stw_v; · (repeat (first | exact Eng.put_z rfl | exact Eng.put_z (by with_reducible assumption) | apply Eng.put_s))) | (apply Eng.stw_o; · (repeat (first | exact Eng.put_z rfl | exact Eng.put_z (by with_reducible assumption) | apply Eng.put_s))) | (apply Eng.stw_val rfl; · (repeat (first | exact Eng.put_z rfl | exact Eng.put_z (by with_reducible assumption) | apply Eng.put_s))) | (apply Eng.stw_own rfl; · (repeat (first | exact Eng.set_z | apply Eng.set_s)); · (repeat (first | exact Eng.put_z rfl | exact Eng.put_z (by with_reducible assumption) | apply Eng.put_s))) | refine Eng.stws_nil ?_ | (apply Eng.stws_cons; · (repeat (first | exact Eng.put_z rfl | exact Eng.put_z (by with_reducible assumption) | apply Eng.put_s))) | refine Eng.tgw_nil ?_ | (apply Eng.tgw_nm; · (repeat (first | exact Eng.put_z rfl | exact Eng.put_z (by with_reducible assumption) | apply Eng.put_s))) | refine Eng.tgw_sub ?_ | (apply Eng.wrw_own rfl; · (repeat (first | exact Eng.set_z | apply Eng.set_s))) | (apply Eng.wrw_lent rfl; · (repeat (first | exact Eng.set_z | apply Eng.set_s))) | refine Eng.mvw_v ?_ | refine Eng.mvw_o ?_ | refine Eng.mvw_val rfl ?_ | (apply Eng.mvw_own rfl; · (repeat (first | exact Eng.set_z | apply Eng.set_s))))
local macro_rules | `(tactic| array_mem_dec) => `(tactic| first | refine Eng.fd_of rfl ?_ | refine Eng.me_of rfl ?_ | refine Eng.wc_of (by with_reducible assumption) ?_ | refine Eng.sm_of rfl ?_ | refine Eng.sm_of (by with_reducible assumption) ?_ | refine Eng.tr_of rfl ?_ | refine Eng.tr_of (by with_reducible assumption) ?_ | refine Eng.bl_of rfl ?_ | refine Eng.sl_of rfl ?_ | refine Eng.bo_of rfl ?_ | refine Eng.cm_of rfl ?_ | refine Eng.ix_of rfl ?_ | refine Eng.outs_of rfl ?_ | refine Eng.ifb_t (by first | rfl | with_reducible assumption | (simp only [Bool.not_eq_true']; with_reducible assumption) | (simp only [decide_eq_true_eq, beq_iff_eq, Bool.not_eq_true', bne_iff_ne, decide_eq_false_iff_not, beq_eq_false_iff_ne, ne_eq]; omega) | decide) ?_ | refine Eng.ifb_f (by first | rfl | with_reducible assumption | (simp only [Bool.not_eq_false']; with_reducible assumption) | (simp only [decide_eq_false_iff_not, beq_eq_false_iff_ne, Bool.not_eq_false', ne_eq, beq_iff_eq, decide_eq_true_eq]; omega) | decide) ?_ | exact ⟨rfl, rfl⟩ | exact rfl | (refine Eng.ifb_s (fun hc => ?_) (fun hc => ?_) <;> (try simp only [decide_eq_true_eq, decide_eq_false_iff_not, beq_iff_eq, beq_eq_false_iff_ne, ne_eq, Bool.not_eq_true', Bool.not_eq_false', Int.not_lt, Int.not_le] at hc)))
namespace Law
open Eng PySem
theorem bo_mulN {P : RV → Prop} (a : AC) (n : Nat) (h1 : n ≤ 1000) (p : P (.v (.tup ((List.replicate n a).map AC.v)))) : BO .Mult (.tup [a.v]) (.int (n : Int)) P := bo_mulA a (by omega) (by omega) (by rw [Int.toNat_natCast]; exact p)
theorem bo_mul5 {P : RV → Prop} (a : AC) (p : P (.v (.tup ((List.replicate 5 a).map AC.v)))) : BO .Mult (.tup [a.v]) (.int 5) P := bo_mulA a (by omega) (by omega) p
/-! ### values of the same build are told equal or not -/
def Shp : Nat → Val → Val → Prop
  | 0, a, b => ∃ i j : Int, a = .int i ∧ b = .int j
  | n + 1, a, b => ∃ xs ys, a = .tup xs ∧ b = .tup ys ∧ xs.length = ys.length ∧ ys.length ≤ 1000 ∧ ∀ (i : Nat) (x y : Val), xs[i]? = some x → ys[i]? = some y → Shp n x y
theorem blsOf_map {α : Type} (f : α → Bool) (xs : List α) : blsOf (xs.map fun a => Val.bl (f a)) = some (xs.map f) := by
  induction xs with
  | nil => rfl
  | cons x xs ih => simp [blsOf, ih]
theorem same_any : ∀ (n : Nat) (a b : Val), Shp n a b → ∀ k, ∃ r : Bool, Fk D (k+n+1) i__law_same [.val a, .val b] = some (.v (.bl r), [a, b])
  | 0, a, b, h, k => by
    obtain ⟨i, j, rfl, rfl⟩ := h
    have key : WC (Fk D (k+0+1) i__law_same) [.val (.int i), .val (.int j)] (fun r ds => ∃ b, r = .v (.bl b) ∧ ds = [.int i, .int j]) := by
      refine wc_fn (F__law_same _ _) rfl (by simp only [startE, slotOf, List.map, List.length, List.replicate, List.cons_append, List.nil_append, List.length_cons, List.length_nil, Nat.reduceAdd, Nat.reduceSub]; rfl) ?_; show WB D _ B__law_same _ _ _ _ _; unfold B__law_same
      (repeat' (first | array_get_dec | array_mem_dec))
      all_goals exact ⟨_, rfl, rfl⟩
    obtain ⟨r, ds, h, b, rfl, rfl⟩ := wc_ex key
    exact ⟨b, h⟩
  | n + 1, a, b, h, k => by
    obtain ⟨xs, ys, rfl, rfl, hl, h1000, hs⟩ := h
    have hex : ∀ j : Nat, ∃ r : Bool, ∀ (x y : Val), xs[j]? = some x → ys[j]? = some y → Fk D (k+n+1) i__law_same [.val x, .val y] = some (.v (.bl r), [x, y]) := fun j => by
      cases ex : xs[j]? with
      | none => exact ⟨true, fun x y h _ => by cases h⟩
      | some x =>
        cases ey : ys[j]? with
        | none => exact ⟨true, fun x y _ h => by cases h⟩
        | some y =>
          obtain ⟨r, hr⟩ := same_any n x y (hs j x y ex ey) k
          exact ⟨r, fun x' y' h1 h2 => by cases h1; cases h2; exact hr⟩
    obtain ⟨rf, hrf⟩ := Classical.axiomOfChoice hex
    have key : WC (Fk D (k+(n+1)+1) i__law_same) [.val (.tup xs), .val (.tup ys)] (fun r ds => ∃ b, r = .v (.bl b) ∧ ds = [.tup xs, .tup ys]) := by
      rw [show k + (n + 1) + 1 = (k + (n+1)) + 1 by omega]
      refine wc_fn (F__law_same _ _) rfl (by simp only [startE, slotOf, List.map, List.length, List.replicate, List.cons_append, List.nil_append, List.length_cons, List.length_nil, Nat.reduceAdd, Nat.reduceSub]; rfl) ?_; show WB D _ B__law_same _ _ _ _ _; unfold B__law_same
      have hne : (!((xs.length : Int) == (ys.length : Int))) = false := by rw [hl]; simp
      (repeat' (first | array_get_dec | array_mem_dec))
      refine we_lcD (List.range ys.length) (fun (j : Nat) => Val.int (j : Int)) (fun _ => true) (fun j => .bl (rf j)) ?_
      (repeat' (first | array_get_dec | array_mem_dec))
      refine ⟨inR_of (by omega) (by omega), range_map _, by rw [List.length_range]; exact cap_of (by omega), ⟨_, rfl, fun j hj => ?_⟩, ?_⟩
      · have hj := List.mem_range.mp hj
        have hat := atI_nat ys j hj
        have hat2 := atI_nat xs j (by omega)
        have q := hrf j _ _ (List.getElem?_eq_getElem (by omega)) (List.getElem?_eq_getElem hj)
        rw [show k + n + 1 = k + (n + 1) by omega] at q
        refine ⟨_, rfl, ?_⟩
        (repeat' (first | array_get_dec | array_mem_dec))
        refine ⟨rfl, ?_⟩
        (repeat' (first | array_get_dec | array_mem_dec))
      · have hb := blsOf_map rf ((List.range ys.length).filter fun _ => true)
        (repeat' (first | array_get_dec | (refine bl_all hb ?_) | array_mem_dec))
        exact ⟨_, rfl, rfl⟩
    obtain ⟨r, ds, h, b, rfl, rfl⟩ := wc_ex key
    exact ⟨b, h⟩
/-! ### backs -/
def restA (b : Bool) : List AC := if b then List.replicate 5 .wait else []
theorem plain_lv (l : List Int) (h : l.length ≤ 1000) : Eng.plain 1 (lvV l) = true := plain_tup (by simpa using h) (plains_of 0 _ (fun _ => rfl) _)
theorem cm_neT {P : Bool → Prop} {xs : List Val} {T : List (List (Str × Val))} (h : xs ≠ []) (hf : fits 59 xs = true) (p : P true) : CM T .NotEq (.tup xs) (.tup []) P := by
  refine cm_of (c := true) ?_ p
  have h1 : fit 60 (.tup xs) = true := hf
  have h2 : veqB (.tup xs) (.tup []) = false := by
    cases xs with
    | nil => exact absurd rfl h
    | cons x xs => rfl
  show (veq (.tup xs) (.tup [])).map _ = _
  have : veq (.tup xs) (.tup []) = some false := by
    show (if fit 60 (.tup xs) && fit 60 (.tup []) then some (veqB (.tup xs) (.tup [])) else none) = _
    rw [h1, h2]
    rfl
  rw [this]
  rfl
theorem fits_of {α : Type} (n : Nat) (f : α → Val) : ∀ xs : List α, (∀ a ∈ xs, fit n (f a) = true) → fits n (xs.map f) = true
  | [], _ => rfl
  | x :: xs, h => by
    rw [List.map_cons]
    unfold fits
    rw [h x (by simp), fits_of n f xs (fun a ha => h a (by simp [ha]))]
    rfl
theorem fit_nm {s : Str} (n : Nat) (h : Nm s) : fit n (.str s) = true := by
  have : PyData.strOk s = true := by
    unfold PyData.strOk
    rw [← Array.all_toList, List.all_eq_true]
    intro c hc
    have := h.abc c hc
    simp [Law.abc] at this
    simp
    omega
  cases n <;> exact this
theorem fit_cu {g : RG} {c : CU} (hg : g.Ok) (h : c.Ok g) : fit 59 c.v = true := by
  have h1 : fits 57 (c.mv.map mvV) = true := fits_of 57 mvV c.mv fun m hm => by
    have := fit_nm 56 (hg.nm m.1 (h.mks m hm).1)
    show (fit 56 (.str m.1) && (fit 56 (.int m.2) && true)) = true
    rw [this]
    rfl
  show (fit 58 (.int c.num) && (fits 57 (c.mv.map mvV) && (fit 58 (.int c.fade) && (fit 58 (folV c.fol) && (fit 58 (.bl c.wh) && true))))) = true
  rw [h1]
  cases c.fol <;> rfl
theorem fit_rest : fits 59 ((restA true).map AC.v) = true := fits_of 59 AC.v _ fun a ha => by
  rw [(List.mem_replicate.mp ha).2]
  have : PyData.strOk (Sl [119, 97, 105, 116]) = true := by
    unfold PyData.strOk
    rw [← Array.all_toList, Sl_toList]
    rfl
  show (PyData.strOk (Sl [119, 97, 105, 116]) && true) = true
  rw [this]
  rfl
theorem cues_ne {g : RG} {cs : List CU} (hg : g.Ok) (hc : LOk g cs) (l1 : 1 ≤ cs.length) {P : Bool → Prop} {T : List (List (Str × Val))} (p : P true) : CM T .NotEq (.tup (cs.map CU.v)) (.tup []) P := by
  refine cm_neT ?_ (fits_of 59 CU.v cs fun c h => fit_cu hg (hc.ok c h)) p
  intro e
  have := congrArg List.length e
  rw [List.length_map, List.length_nil] at this
  omega
theorem e_backs (k : Nat) (g : RG) (cs : List CU) (bk : Int) (hg : g.Ok) (hc : LOk g cs) (h0 : 0 ≤ bk) (h5 : bk ≤ 5) (l1 : 1 ≤ cs.length) (l5 : cs.length ≤ 5) (n m : Nat) (hn : n ≤ 6) (hm : m ≤ 6) :
    Fk D (k+9) i__law_backs_right [.val (clV g cs), .val (rigT g), .val (.tup (cs.map CU.v)), .val (.int bk), .val (.int (n : Int)), .val (.int (m : Int))] = some (.v (.bl true), [clV g cs, rigT g, .tup (cs.map CU.v), .int bk, .int (n : Int), .int (m : Int)]) := by
  refine wc_eq ?_
  refine wc_fn (F__law_backs_right _ _) rfl (by simp only [startE, slotOf, List.map, List.length, List.replicate, List.cons_append, List.nil_append, List.length_cons, List.length_nil, Nat.reduceAdd, Nat.reduceSub]; rfl) ?_; show WB D _ B__law_backs_right _ _ _ _ _; unfold B__law_backs_right
  have hml : (cs.map CU.v).length = cs.length := List.length_map ..
  obtain ⟨j, hj⟩ : ∃ j, j = min n cs.length := ⟨_, rfl⟩
  have hmin : min (n : Int) (cs.length : Int) = (j : Int) := by omega
  refine wb_cut (fun ε => ε = [.val (clV g cs), .val (rigT g), .val (.tup (cs.map CU.v)), .val (.int bk), .val (.int (n : Int)), .val (.int (m : Int)), .val (.int ((j : Int) - 1)), .un, .un, .un, .un, .un, .un, .un, .un, .un]) ?_ ?_
  · (repeat' (first | array_get_dec | array_mem_dec))
    rw [hml, hmin]
  rintro ε1 rfl
  refine wb_cut (fun ε => ε = [.val (clV g cs), .val (rigT g), .val (.tup (cs.map CU.v)), .val (.int bk), .val (.int (n : Int)), .val (.int (m : Int)), .val (.int ((j : Int) - 1)), .val (.tup ((restA true).map AC.v)), .un, .un, .un, .un, .un, .un, .un, .un]) ?_ ?_
  · (repeat' (first | array_get_dec | (refine bo_mul5 .wait ?_) | array_mem_dec))
  rintro ε1 rfl
  refine wb_cut (fun ε => ∃ b s8, (b = true → ∀ (i : Nat) (c : CU), i < j → cs[i]? = some c → c.fol = none) ∧ free s8 = true ∧ ε = [.val (clV g cs), .val (rigT g), .val (.tup (cs.map CU.v)), .val (.int bk), .val (.int (n : Int)), .val (.int (m : Int)), .val (.int ((j : Int) - 1)), .val (.tup ((restA b).map AC.v)), s8, .un, .un, .un, .un, .un, .un, .un]) ?_ ?_
  · (repeat' (first | array_get_dec | array_mem_dec))
    refine ws_forF (fun i ε => ∃ b s8, (b = true → ∀ (i' : Nat) (c : CU), i' < i → cs[i']? = some c → c.fol = none) ∧ free s8 = true ∧ ε = [.val (clV g cs), .val (rigT g), .val (.tup (cs.map CU.v)), .val (.int bk), .val (.int (n : Int)), .val (.int (m : Int)), .val (.int ((j : Int) - 1)), .val (.tup ((restA b).map AC.v)), s8, .un, .un, .un, .un, .un, .un, .un]) ?_
    (repeat' (first | array_get_dec | array_mem_dec))
    rw [hml, hmin]
    refine ⟨inR_of (by omega) (by omega), rfl, ⟨true, _, fun _ i' c h => by omega, rfl, rfl⟩, ?_, ?_⟩
    · rintro i x ε2 hx ⟨b, s8, hb, f8, rfl⟩
      rw [range_map, List.getElem?_map] at hx
      have hi : i < j := by
        rcases Nat.lt_or_ge i j with g | g
        · exact g
        · rw [List.getElem?_eq_none (by simpa using g)] at hx; cases hx
      rw [List.getElem?_range hi] at hx
      cases hx
      have e := List.getElem?_eq_getElem (show i < cs.length by omega)
      have hat := atI_cu cs e
      refine ⟨_, tg_one (by (repeat (first | exact put_z rfl | exact put_z (by with_reducible assumption) | apply put_s))), ?_⟩
      cases hfo : cs[i].fol with
      | none =>
        rw [hfo] at hat
        have hat : L2.atI (cs.map CU.v) (i : Int) = some (.tup [.int cs[i].num, .tup (cs[i].mv.map mvV), .int cs[i].fade, .non, .bl cs[i].wh]) := hat
        (repeat' (first | array_get_dec | array_mem_dec))
        refine ⟨b, _, fun hb' i' c h hc' => ?_, rfl, rfl⟩
        by_cases hi' : i' = i
        · subst hi'
          rw [e] at hc'
          cases hc'
          exact hfo
        · exact hb hb' i' c (by omega) hc'
      | some f =>
        rw [hfo] at hat
        have hat : L2.atI (cs.map CU.v) (i : Int) = some (.tup [.int cs[i].num, .tup (cs[i].mv.map mvV), .int cs[i].fade, .int f, .bl cs[i].wh]) := hat
        (repeat' (first | array_get_dec | array_mem_dec))
        exact ⟨false, _, (fun h => by cases h), rfl, rfl⟩
    · rintro ε2 ⟨b, s8, hb, f8, rfl⟩
      rw [range_len, show (j : Int).toNat = j from Int.toNat_natCast j] at hb
      (repeat' (first | array_get_dec | array_mem_dec))
      exact ⟨b, _, hb, f8, rfl⟩
  rintro ε1 ⟨b, s8, hb, f8, rfl⟩
  -- the stages
  have hgo : AsOk g (List.replicate n AC.go) := rep_ok (a := AC.go) trivial n
  have hra : AsOk g (restA b) := by
    unfold restA
    split
    · exact rep_ok (a := AC.wait) trivial 5
    · exact fun _ h => nomatch h
  have hrl : (restA b).length ≤ 5 := by unfold restA; split <;> simp
  have hbc : AsOk g (List.replicate m AC.bck) := rep_ok (a := AC.bck) trivial m
  have hgr := app_ok hgo hra
  have hgrb := app_ok hgr hbc
  have hgrw := app_ok hgrb (rep_ok (a := .wait) (g := g) trivial 5)
  have q1 := e_stage_behind k g cs bk hg hc h0 h5 _ hgr (by simp; omega)
  have q2 := e_stage_behind k g cs bk hg hc h0 h5 _ hgrb (by simp; omega)
  have q3 := e_stage_behind k g cs bk hg hc h0 h5 _ hgrw (by simp; omega)
  have q4 := e_look_of k g cs bk hg hc h0 h5 _ hgrb (by simp; omega)
  rw [lastS_app] at q2 q4
  rw [lastS_app, lastS_app] at q3
  have ok1 := lastS_ok g cs bk hg hc h0 h5 _ (firstS g) firstS_ok hgr
  have go1 := lastS_goal hg hc h0 h5 _ (firstS g) firstS_ok hgr firstS_goal
  have p1 : (lastS g cs bk (firstS g) (List.replicate n AC.go ++ restA b)).place = (j : Int) - 1 ∧ (lastS g cs bk (firstS g) (List.replicate n AC.go ++ restA b)).held = [] ∧ (n = 0 ∨ b = true → (lastS g cs bk (firstS g) (List.replicate n AC.go ++ restA b)).due = -1) ∧ (b = true → Rest (lastS g cs bk (firstS g) (List.replicate n AC.go ++ restA b))) := by
    rw [lastS_app]
    have a1 := gos_place (g := g) (cs := cs) (bk := bk) n
    have a2 := gos_due (g := g) (cs := cs) (bk := bk) n
    have a3 := held_rep (g := g) (cs := cs) (bk := bk) (s := firstS g) .go ⟨by simp, by simp⟩ n
    have ok0 := lastS_ok g cs bk hg hc h0 h5 _ (firstS g) firstS_ok hgo
    have go0 := lastS_goal hg hc h0 h5 _ (firstS g) firstS_ok hgo firstS_goal
    generalize lastS g cs bk (firstS g) (List.replicate n .go) = t at *
    cases b with
    | false =>
      refine ⟨by show t.place = _; omega, a3, ?_, fun h => by cases h⟩
      rintro (h | h)
      · show t.due = _
        rw [a2, if_neg (by omega)]
      · cases h
    | true =>
      have hd : t.due = -1 := by
        rw [a2]
        split
        · have e := List.getElem?_eq_getElem (show j - 1 < cs.length by omega)
          have := follow_eq e
          rw [hb rfl (j - 1) _ (by omega) e] at this
          rw [← hj, this]
        · rfl
      show (lastS g cs bk t (List.replicate 5 .wait)).place = _ ∧ (lastS g cs bk t (List.replicate 5 .wait)).held = _ ∧ _ ∧ _
      rw [show lastS g cs bk t (restA true) = _ from waits5 ok0 go0 hd, waits5 ok0 go0 hd]
      refine ⟨by show t.place = _; omega, a3, fun _ => rfl, fun _ r hr => ?_⟩
      obtain ⟨e, _, rfl⟩ := List.mem_map.mp hr
      rfl
  obtain ⟨p1, hd1, d1, r1⟩ := p1
  generalize lastS g cs bk (firstS g) (List.replicate n AC.go ++ restA b) = s1 at *
  obtain ⟨b1, b2⟩ := backs_place (g := g) (cs := cs) (bk := bk) (s := s1) (by omega) m
  have ok2 := lastS_ok g cs bk hg hc h0 h5 _ s1 ok1 hbc
  have go2 := lastS_goal hg hc h0 h5 _ s1 ok1 hbc go1
  have hd2 := held_rep (g := g) (cs := cs) (bk := bk) (s := s1) .bck ⟨by simp, by simp⟩ m
  rw [hd1] at hd2
  have r2 : b = true → bk = 0 → Rest (lastS g cs bk s1 (List.replicate m .bck)) := fun h h' => by
    subst h'
    exact rest_backs hg hc ok1 (r1 h) m
  have d2 : (m = 0 ∨ n = 0) → (lastS g cs bk s1 (List.replicate m .bck)).due = s1.due := by
    rintro (h | h)
    · subst h; rfl
    · have : ∀ m, lastS g cs bk s1 (List.replicate m .bck) = s1 := by
        intro m
        induction m with
        | zero => rfl
        | succ m ih => rw [List.replicate_succ', lastS_snoc, ih, back_idle (by omega)]
      rw [this]
  generalize lastS g cs bk s1 (List.replicate m .bck) = s2 at *
  obtain ⟨i, hi⟩ : ∃ i, i = j - m := ⟨_, rfl⟩
  have p2 : s2.place = (i : Int) - 1 := by omega
  have hgl2 := goal_list ok2 go2
  rw [show (s2.place + 1).toNat = i by omega] at hgl2
  have hv1 : s1.v = .tup [.tup (s1.runs.map Rn.v), .int ((j : Int) - 1), .int s1.due, .tup []] := by
    unfold SG.v
    rw [hd1, p1]
    rfl
  have hv2 : s2.v = .tup [.tup (s2.runs.map Rn.v), .int ((i : Int) - 1), .int s2.due, .tup []] := by
    unfold SG.v
    rw [hd2, p2]
    rfl
  rw [hv1] at q1
  rw [hv2] at q2
  refine wb_cut (fun ε => ε = [.val (clV g cs), .val (rigT g), .val (.tup (cs.map CU.v)), .val (.int bk), .val (.int (n : Int)), .val (.int (m : Int)), .val (.int ((j : Int) - 1)), .val (.tup ((restA b).map AC.v)), s8, .val (.tup ((List.replicate n AC.go ++ restA b).map AC.v)), .un, .un, .un, .un, .un, .un]) ?_ ?_
  · (repeat' (first | array_get_dec | (refine bo_mulN .go n (by omega) ?_) | (refine bo_addA (List.replicate n AC.go) (restA b) (by simp; omega) ?_) | array_mem_dec))
  rintro ε1 rfl
  have hgm : max (-1) ((j : Int) - 1 - (m : Int)) = (i : Int) - 1 := by omega
  have hme := e_means (k + 7) g cs hg hc i (by omega)
  have hme2 := e_means (k + 7) g cs hg hc j (by omega)
  refine wb_cut3 (fun ε => ε = [.val (clV g cs), .val (rigT g), .val (.tup (cs.map CU.v)), .val (.int bk), .val (.int (n : Int)), .val (.int (m : Int)), .val (.int ((j : Int) - 1)), .val (.tup ((restA b).map AC.v)), s8, .val (.tup ((List.replicate n AC.go ++ restA b).map AC.v)), .val (.tup [.tup (s1.runs.map Rn.v), .int ((j : Int) - 1), .int s1.due, .tup []]), .val (.tup [.tup (s2.runs.map Rn.v), .int ((i : Int) - 1), .int s2.due, .tup []]), .val (.int ((i : Int) - 1)), .un, .un, .un]) ?_ ?_
  · (repeat' (first | array_get_dec | (refine bo_mulN .bck m (by omega) ?_) | (refine bo_addA (List.replicate n AC.go ++ restA b) (List.replicate m AC.bck) (by simp; omega) ?_) | array_mem_dec))
    rw [hgm]
  rintro ε1 rfl
  refine wb_cut (fun ε => ε = [.val (clV g cs), .val (rigT g), .val (.tup (cs.map CU.v)), .val (.int bk), .val (.int (n : Int)), .val (.int (m : Int)), .val (.int ((j : Int) - 1)), .val (.tup ((restA b).map AC.v)), s8, .val (.tup ((List.replicate n AC.go ++ restA b).map AC.v)), .val (.tup [.tup (s1.runs.map Rn.v), .int ((j : Int) - 1), .int s1.due, .tup []]), .val (.tup [.tup (s2.runs.map Rn.v), .int ((i : Int) - 1), .int s2.due, .tup []]), .val (.int ((i : Int) - 1)), .val (lvV (meanAt g cs i)), .un, .un]) ?_ ?_
  · (repeat' (first | array_get_dec | array_mem_dec))
  rintro ε1 rfl
  have ml8 : (meanAt g cs i).length ≤ 1000 := by rw [meanAt_len]; have := hg.l8; omega
  have nr8 : s2.runs.length ≤ 10000 := by rw [ok2.nr]; have := hg.l8; omega
  have hsame : ∀ x y : Int, Fk D (k + 8) i__law_same [.val (.tup [.tup [.int x, .int y], .tup ((meanAt g cs i).map .int)]), .val (.tup [.tup [.int x, .int y], lvV (meanAt g cs i)])] = some (.v (.bl true), [.tup [.tup [.int x, .int y], .tup ((meanAt g cs i).map .int)], .tup [.tup [.int x, .int y], lvV (meanAt g cs i)]]) := fun x y => e_same 2 (.tup [.tup [.int x, .int y], lvV (meanAt g cs i)]) (by
    have := plain_lv _ ml8
    refine plain_tup (by simp) ?_
    show (Eng.plain 1 (.tup [.int x, .int y]) && (Eng.plain 1 (lvV (meanAt g cs i)) && true)) = true
    rw [this]
    rfl) (k + 5)
  refine wb_cut (fun ε => ∃ s15, free s15 = true ∧ ε = [.val (clV g cs), .val (rigT g), .val (.tup (cs.map CU.v)), .val (.int bk), .val (.int (n : Int)), .val (.int (m : Int)), .val (.int ((j : Int) - 1)), .val (.tup ((restA b).map AC.v)), s8, .val (.tup ((List.replicate n AC.go ++ restA b).map AC.v)), .val (.tup [.tup (s1.runs.map Rn.v), .int ((j : Int) - 1), .int s1.due, .tup []]), .val (.tup [.tup (s2.runs.map Rn.v), .int ((i : Int) - 1), .int s2.due, .tup []]), .val (.int ((i : Int) - 1)), .val (lvV (meanAt g cs i)), .un, s15]) ?_ ?_
  · have hcase : (m = 0 ∧ i = j ∧ s1.due = s2.due) ∨ (¬ m = 0 ∧ n = 0 ∧ i = j ∧ s1.due = s2.due) ∨ (¬ m = 0 ∧ ¬ n = 0 ∧ s2.due = -1) := by
      by_cases h1 : m = 0
      · exact .inl ⟨h1, by omega, (d2 (.inl h1)).symm⟩
      · by_cases h2 : n = 0
        · exact .inr (.inl ⟨h1, h2, by omega, (d2 (.inr h2)).symm⟩)
        · exact .inr (.inr ⟨h1, h2, b2 (by omega) (by omega)⟩)
    have hs2 := hsame ((i : Int) - 1) s2.due
    rcases hcase with ⟨h1, h2, h3⟩ | ⟨h1, h2, h3, h4⟩ | ⟨h1, h2, h3⟩
    · rw [h3]
      rw [← h2] at *
      (repeat' (first | array_get_dec | (refine sl_13 ?_) | array_mem_dec))
      refine we_lcD s2.runs (fun r => .tup [.int r.x, .int r.e, .int r.a, .int r.l]) (fun _ => true) (fun r => .int r.e) ?_
      (repeat' (first | array_get_dec | array_mem_dec))
      refine ⟨rfl, cap_of nr8, ⟨_, rfl, fun r hr => ?_⟩, ?_⟩
      · refine ⟨_, tg_one (by (repeat (first | exact put_z rfl | exact put_z (by with_reducible assumption) | apply put_s))), ?_⟩
        (repeat' (first | array_get_dec | array_mem_dec))
        refine ⟨rfl, ?_⟩
        (repeat' (first | array_get_dec | array_mem_dec))
      · rw [filter_true, show s2.runs.map (fun r => Val.int r.e) = (meanAt g cs i).map .int by rw [← hgl2, List.map_map]; rfl]
        (repeat' (first | array_get_dec | (refine sl_13 ?_) | array_mem_dec))
        exact ⟨_, rfl, rfl⟩
    · rw [h4]
      rw [← h3] at *
      (repeat' (first | array_get_dec | (refine sl_13 ?_) | array_mem_dec))
      refine we_lcD s2.runs (fun r => .tup [.int r.x, .int r.e, .int r.a, .int r.l]) (fun _ => true) (fun r => .int r.e) ?_
      (repeat' (first | array_get_dec | array_mem_dec))
      refine ⟨rfl, cap_of nr8, ⟨_, rfl, fun r hr => ?_⟩, ?_⟩
      · refine ⟨_, tg_one (by (repeat (first | exact put_z rfl | exact put_z (by with_reducible assumption) | apply put_s))), ?_⟩
        (repeat' (first | array_get_dec | array_mem_dec))
        refine ⟨rfl, ?_⟩
        (repeat' (first | array_get_dec | array_mem_dec))
      · rw [filter_true, show s2.runs.map (fun r => Val.int r.e) = (meanAt g cs i).map .int by rw [← hgl2, List.map_map]; rfl]
        (repeat' (first | array_get_dec | (refine sl_13 ?_) | array_mem_dec))
        exact ⟨_, rfl, rfl⟩
    · rw [h3] at hs2 ⊢
      (repeat' (first | array_get_dec | (refine sl_13 ?_) | array_mem_dec))
      refine we_lcD s2.runs (fun r => .tup [.int r.x, .int r.e, .int r.a, .int r.l]) (fun _ => true) (fun r => .int r.e) ?_
      (repeat' (first | array_get_dec | array_mem_dec))
      refine ⟨rfl, cap_of nr8, ⟨_, rfl, fun r hr => ?_⟩, ?_⟩
      · refine ⟨_, tg_one (by (repeat (first | exact put_z rfl | exact put_z (by with_reducible assumption) | apply put_s))), ?_⟩
        (repeat' (first | array_get_dec | array_mem_dec))
        refine ⟨rfl, ?_⟩
        (repeat' (first | array_get_dec | array_mem_dec))
      · rw [filter_true, show s2.runs.map (fun r => Val.int r.e) = (meanAt g cs i).map .int by rw [← hgl2, List.map_map]; rfl]
        (repeat' (first | array_get_dec | (refine sl_13 ?_) | (refine cues_ne hg hc l1 ?_) | array_mem_dec))
        exact ⟨_, rfl, rfl⟩
  rintro ε1 ⟨s15, f15, rfl⟩
  refine wb_cut (fun ε => ε = [.val (clV g cs), .val (rigT g), .val (.tup (cs.map CU.v)), .val (.int bk), .val (.int (n : Int)), .val (.int (m : Int)), .val (.int ((j : Int) - 1)), .val (.tup ((restA b).map AC.v)), s8, .val (.tup ((List.replicate n AC.go ++ restA b).map AC.v)), .val (.tup [.tup (s1.runs.map Rn.v), .int ((j : Int) - 1), .int s1.due, .tup []]), .val (.tup [.tup (s2.runs.map Rn.v), .int ((i : Int) - 1), .int s2.due, .tup []]), .val (.int ((i : Int) - 1)), .val (lvV (meanAt g cs i)), .un, s15]) ?_ ?_
  · by_cases hbk : bk = 0
    · subst hbk
      cases b with
      | false =>
        rw [show (restA false).map AC.v = [] from rfl]
        (repeat' (first | array_get_dec | array_mem_dec))
      | true =>
        have hlk := look_rest ok2 go2 (r2 rfl rfl) hd2
        rw [p2, show ((i : Int) - 1 + 1).toNat = i by omega] at hlk
        rw [hlk] at q4
        have hs4 := e_same 1 _ (plain_lv _ ml8) (k + 6)
        (repeat' (first | array_get_dec | (refine bo_mulN .bck m (by omega) ?_) | (refine bo_addA (List.replicate n AC.go ++ restA true) (List.replicate m AC.bck) (by simp; omega) ?_) | (refine cm_neT (xs := (restA true).map AC.v) (by simp [restA]) fit_rest ?_) | array_mem_dec))
    · (repeat' (first | array_get_dec | array_mem_dec))
  rintro ε1 rfl
  have hrl8 : ((meanAt g cs i).map restR).length ≤ 1000 := by rw [List.length_map]; exact ml8
  by_cases hm0 : m = 0
  · have ok3 := lastS_ok g cs bk hg hc h0 h5 (List.replicate 5 .wait) s2 ok2 (rep_ok (a := AC.wait) trivial 5)
    have hshp : Shp 2 (.tup ((lastS g cs bk s2 (List.replicate 5 .wait)).runs.map Rn.v)) (.tup (((meanAt g cs i).map restR).map Rn.v)) := by
      refine ⟨_, _, rfl, rfl, ?_, ?_, ?_⟩
      · rw [List.length_map, List.length_map, List.length_map, ok3.nr, meanAt_len]
      · rw [List.length_map]; exact hrl8
      · intro a x y hx hy
        rw [List.getElem?_map] at hx hy
        obtain ⟨rx, _, rfl⟩ := Option.map_eq_some_iff.mp hx
        obtain ⟨ry, _, rfl⟩ := Option.map_eq_some_iff.mp hy
        refine ⟨_, _, rfl, rfl, rfl, by simp, ?_⟩
        intro c x y hx hy
        match c with
        | 0 => cases hx; cases hy; exact ⟨_, _, rfl, rfl⟩
        | 1 => cases hx; cases hy; exact ⟨_, _, rfl, rfl⟩
        | 2 => cases hx; cases hy; exact ⟨_, _, rfl, rfl⟩
        | 3 => cases hx; cases hy; exact ⟨_, _, rfl, rfl⟩
        | c + 4 => cases hx
    obtain ⟨r, hr⟩ := same_any 2 _ _ hshp (k + 5)
    generalize lastS g cs bk s2 (List.replicate 5 .wait) = s3 at *
    have q3 : Fk D (k + 8) i_stage_behind [.val (clV g cs), .val (.int bk), .val (.tup (((List.replicate n AC.go ++ restA b ++ List.replicate m AC.bck) ++ List.replicate 5 AC.wait).map AC.v))] = some (.v (.tup [.tup (s3.runs.map Rn.v), .int s3.place, .int s3.due, .tup (s3.held.map mvV)]), [clV g cs, .int bk, .tup (((List.replicate n AC.go ++ restA b ++ List.replicate m AC.bck) ++ List.replicate 5 AC.wait).map AC.v)]) := q3
    (repeat' (first | array_get_dec | (refine bo_mulN .bck m (by omega) ?_) | (refine bo_mul5 .wait ?_) | (refine bo_addA (List.replicate n AC.go ++ restA b) (List.replicate m AC.bck) (by simp; omega) ?_) | (refine bo_addA (List.replicate n AC.go ++ restA b ++ List.replicate m AC.bck) (List.replicate 5 AC.wait) (by simp; omega) ?_) | array_mem_dec))
    refine we_lcD (meanAt g cs i) Val.int (fun _ => true) (fun l => (restR l).v) ?_
    (repeat' (first | array_get_dec | array_mem_dec))
    refine ⟨rfl, cap_of (by omega), ⟨_, rfl, fun l hl => ?_⟩, ?_⟩
    · refine ⟨_, tg_one (by (repeat (first | exact put_z rfl | exact put_z (by with_reducible assumption) | apply put_s))), ?_⟩
      (repeat' (first | array_get_dec | array_mem_dec))
      refine ⟨rfl, ?_⟩
      (repeat' (first | array_get_dec | array_mem_dec))
    · rw [filter_true, show (meanAt g cs i).map (fun l => (restR l).v) = ((meanAt g cs i).map restR).map Rn.v by rw [List.map_map]; rfl]
      cases r
      all_goals (repeat' (first | array_get_dec | array_mem_dec))
      all_goals (rw [hm0]; exact ⟨rfl, rfl⟩)
  · have hd : s2.due = -1 := by
      by_cases hn0 : n = 0
      · rw [d2 (.inr hn0)]; exact d1 (.inl hn0)
      · exact b2 (by omega) (by omega)
    have hw := waits5 (bk := bk) ok2 go2 hd
    rw [p2, show ((i : Int) - 1 + 1).toNat = i by omega] at hw
    rw [hw] at q3
    have q3 : Fk D (k + 8) i_stage_behind [.val (clV g cs), .val (.int bk), .val (.tup (((List.replicate n AC.go ++ restA b ++ List.replicate m AC.bck) ++ List.replicate 5 AC.wait).map AC.v))] = some (.v (.tup [.tup (((meanAt g cs i).map restR).map Rn.v), .int ((i : Int) - 1), .int (-1), .tup (s2.held.map mvV)]), [clV g cs, .int bk, .tup (((List.replicate n AC.go ++ restA b ++ List.replicate m AC.bck) ++ List.replicate 5 AC.wait).map AC.v)]) := q3
    have hr := e_same 2 (.tup (((meanAt g cs i).map restR).map Rn.v)) (plain_tup (by rw [List.length_map]; exact hrl8) (plains_of 1 _ plain_rn _)) (k + 5)
    (repeat' (first | array_get_dec | (refine bo_mulN .bck m (by omega) ?_) | (refine bo_mul5 .wait ?_) | (refine bo_addA (List.replicate n AC.go ++ restA b) (List.replicate m AC.bck) (by simp; omega) ?_) | (refine bo_addA (List.replicate n AC.go ++ restA b ++ List.replicate m AC.bck) (List.replicate 5 AC.wait) (by simp; omega) ?_) | array_mem_dec))
    refine we_lcD (meanAt g cs i) Val.int (fun _ => true) (fun l => (restR l).v) ?_
    (repeat' (first | array_get_dec | array_mem_dec))
    refine ⟨rfl, cap_of (by omega), ⟨_, rfl, fun l hl => ?_⟩, ?_⟩
    · refine ⟨_, tg_one (by (repeat (first | exact put_z rfl | exact put_z (by with_reducible assumption) | apply put_s))), ?_⟩
      (repeat' (first | array_get_dec | array_mem_dec))
      refine ⟨rfl, ?_⟩
      (repeat' (first | array_get_dec | array_mem_dec))
    · rw [filter_true, show (meanAt g cs i).map (fun l => (restR l).v) = ((meanAt g cs i).map restR).map Rn.v by rw [List.map_map]; rfl]
      (repeat' (first | array_get_dec | array_mem_dec))
end Law
end
section
set_option Elab.async false
set_option linter.all false
set_option maxRecDepth 100000
set_option maxHeartbeats 4000000
set_option hygiene false
local macro_rules | `(tactic| array_get_dec) => `(tactic| first | refine Eng.wb_cons ?_ | refine Eng.ws_asg ?_ | refine Eng.ws_ret ?_ | refine Eng.ws_ife ?_ | refine Eng.ws_asgT ?_ | refine Eng.ws_par ?_ | refine Eng.ws_exp ?_ | refine Eng.wb_nil ?_ | refine Eng.ws_pass ?_ | refine Eng.ws_retN ?_ | refine Eng.ws_subS ?_ | refine Eng.ws_fldS ?_ | refine Eng.ws_app rfl ?_ | refine Eng.ws_brk ?_ | refine Eng.ws_cont ?_ | refine Eng.wv_of ?_ | refine Eng.wn_of ?_ | refine Eng.wt_of ?_ | refine Eng.we_var rfl ?_ | refine Eng.lk_of rfl ?_ | refine Eng.we_lit ?_ | refine Eng.fzw_v ?_ | refine Eng.fzw_val rfl ?_ | refine Eng.fzw_o ?_ | (apply Eng.fzw_own rfl; · (repeat (first | exact Eng.set_z | apply Eng.set_s))) | refine Eng.wf_cons ?_ | refine Eng.wf_nil ?_ | refine Eng.wa_cons ?_ | refine Eng.wa_nil ?_ | refine Eng.we_tup ?_ | refine Eng.we_ix ?_ | refine Eng.we_bin ?_ | refine Eng.we_cmp ?_ | refine Eng.we_fld ?_ | refine Eng.we_call ?_ | refine Eng.we_meth ?_ | refine Eng.we_blt ?_ | refine Eng.we_lst ?_ | refine Eng.we_ife ?_ | refine Eng.we_and2 ?_ | refine Eng.we_or2 ?_ | refine Eng.we_not ?_ | refine Eng.we_neg ?_ | refine Eng.we_isB ?_ | refine Eng.we_isC ?_ | refine Eng.we_chn ?_ | refine Eng.we_slc ?_ | refine Eng.we_dget1 ?_ | refine Eng.we_dget2 ?_ | refine Eng.isd_of rfl ?_ | refine Eng.we_dsp ?_ | refine Eng.wd_cons ?_ | refine Eng.wd_nil ?_ | refine Eng.wo_no ?_ | refine Eng.wo_so ?_ | refine Eng.wts_nil ?_ | refine Eng.wts_one ?_ | refine Eng.wi_seq ?_ | refine Eng.wi_rng1 ?_ | refine Eng.wi_rng2 ?_ | refine Eng.wi_enum ?_ | refine Eng.wi_zip ?_ | refine Eng.bo_addI ?_ | refine Eng.bo_subI ?_ | refine Eng.cm_ltI ?_ | refine Eng.cm_leI ?_ | refine Eng.cm_gtI ?_ | refine Eng.cm_geI ?_ | refine Eng.cm_eqI ?_ | refine Eng.cm_neI ?_ | refine Eng.cm_eqS ?_ | refine Eng.cm_neS ?_ | refine Eng.cm_isN ?_ | refine Eng.cm_isnotN ?_ | refine Eng.cm_inD rfl ?_ | refine Eng.cm_ninD rfl ?_ | refine Eng.cm_inTS ?_ | refine Eng.cm_inLS ?_ | refine Eng.cm_ninTS ?_ | refine Eng.cm_ninLS ?_ | refine Eng.ix_t0 ?_ | refine Eng.ix_t1 ?_ | refine Eng.ix_t2 ?_ | refine Eng.ix_t3 ?_ | refine Eng.ix_t4 ?_ | refine Eng.ix_l0 ?_ | refine Eng.ix_l1 ?_ | refine Eng.ix_l2 ?_ | refine Eng.ix_T (by with_reducible assumption) ?_ | refine Eng.ix_L (by with_reducible assumption) ?_ | refine Eng.in_of ?_ | refine Eng.tupn_of rfl ?_ | refine Eng.hd_of ?_ | refine Eng.dct_of ?_ | refine Eng.bo_mulI (by first | exact Eng.small_l (by first | decide | with_reducible assumption) | exact Eng.small_r (by first | decide | with_reducible assumption) | exact Eng.small_r (Eng.small_of' (by omega) (by omega)) | exact Eng.small_l (Eng.small_of' (by omega) (by omega))) ?_ | refine Eng.bo_fdiv (by first | decide | with_reducible assumption | exact Eng.nat31_of (by omega) (by omega)) ?_ | refine Eng.bo_mod (by first | decide | omega) ?_ | refine Eng.bo_addT (by first | with_reducible assumption | decide) ?_ | refine Eng.bo_addL (by first | with_reducible assumption | decide) ?_ | refine Eng.bo_addS (by first | with_reducible assumption | decide) ?_ | refine Eng.bo_of (by with_reducible assumption) ?_ | refine Eng.cm_of (by with_reducible assumption) ?_ | refine Eng.ix_of (by with_reducible assumption) ?_ | refine Eng.sl_of (by with_reducible assumption) ?_ | refine Eng.bl_of (by with_reducible assumption) ?_ | refine Eng.bl_divmod (by first | decide | with_reducible assumption | exact Eng.nat31_of (by omega) (by omega)) ?_ | refine Eng.fd_of (by with_reducible assumption) ?_ | refine Eng.me_of (by with_reducible assumption) ?_ | refine Eng.call_plain rfl rfl ?_ | refine Eng.call_well rfl (fun _ => rfl) ?_ | refine Eng.set_l0 ?_ | refine Eng.set_l1 ?_ | refine Eng.set_l2 ?_ | (apply Eng.stw_v; · (repeat (first | exact Eng.put_z rfl | exact Eng.put_z (by with_reducible assumption) | apply Eng.put_s))) | (apply Eng.stw_o; · (repeat (first | exact Eng.put_z rfl | exact Eng.put_z (by with_reducible assumption) | apply Eng.put_s))) | (apply Eng.stw_val rfl; · (repeat (first | exact Eng.put_z rfl | exact Eng.put_z (by with_reducible assumption) | apply Eng.put_s))) | (apply Eng.stw_own rfl; · (repeat (first | exact Eng.set_z | apply Eng.set_s)); · (repeat (first | exact Eng.put_z rfl | exact Eng.put_z (by with_reducible assumption) | apply Eng.put_s))) | refine Eng.stws_nil ?_ | (apply Eng.stws_cons; · (repeat (first | exact Eng.put_z rfl | exact Eng.put_z (by with_reducible assumption) | apply Eng.put_s))) | refine Eng.tgw_nil ?_ | (apply Eng.tgw_nm; · (repeat (first | exact Eng.put_z rfl | exact Eng.put_z (by with_reducible assumption) | apply Eng.put_s))) | refine Eng.tgw_sub ?_ | (apply Eng.wrw_own rfl; · (repeat (first | exact Eng.set_z | apply Eng.set_s))) | (apply Eng.wrw_lent rfl; · (repeat (first | exact Eng.set_z | apply Eng.set_s))) | refine Eng.mvw_v ?_ | refine Eng.mvw_o ?_ | refine Eng.mvw_val rfl ?_ | (apply Eng.mvw_own rfl; · (repeat (first | exact Eng.set_z | apply Eng.set_s))))
local macro_rules | `(tactic| array_mem_dec) => `(tactic| first | refine Eng.fd_of rfl ?_ | refine Eng.me_of rfl ?_ | refine Eng.wc_of (by with_reducible assumption) ?_ | refine Eng.sm_of rfl ?_ | refine Eng.sm_of (by with_reducible assumption) ?_ | refine Eng.tr_of rfl ?_ | refine Eng.tr_of (by with_reducible assumption) ?_ | refine Eng.bl_of rfl ?_ | refine Eng.sl_of rfl ?_ | refine Eng.bo_of rfl ?_ | refine Eng.cm_of rfl ?_ | refine Eng.ix_of rfl ?_ | refine Eng.outs_of rfl ?_ | refine Eng.ifb_t (by first | rfl | with_reducible assumption | (simp only [Bool.not_eq_true']; with_reducible assumption) | (simp only [decide_eq_true_eq, beq_iff_eq, Bool.not_eq_true', bne_iff_ne, decide_eq_false_iff_not, beq_eq_false_iff_ne, ne_eq]; omega) | decide) ?_ | refine Eng.ifb_f (by first | rfl | with_reducible assumption | (simp only [Bool.not_eq_false']; with_reducible assumption) | (simp only [decide_eq_false_iff_not, beq_eq_false_iff_ne, Bool.not_eq_false', ne_eq, beq_iff_eq, decide_eq_true_eq]; omega) | decide) ?_ | exact ⟨rfl, rfl⟩ | exact rfl | (refine Eng.ifb_s (fun hc => ?_) (fun hc => ?_) <;> (try simp only [decide_eq_true_eq, decide_eq_false_iff_not, beq_iff_eq, beq_eq_false_iff_ne, ne_eq, Bool.not_eq_true', Bool.not_eq_false', Int.not_lt, Int.not_le] at hc)))
namespace Law
open Eng PySem
/-! ### once -/
def bareC (c : CU) : CU := ⟨c.num, c.mv, c.fade, none, c.wh⟩
section
variable {g : RG} {cs : List CU} {bk : Int}
theorem bare_ok (h : LOk g cs) : LOk g (cs.map bareC) := by
  refine ⟨?_, ?_, by rw [List.length_map]; exact h.len⟩
  · intro c' hc'
    obtain ⟨c, hc, rfl⟩ := List.mem_map.mp hc'
    have := h.ok c hc
    exact ⟨this.n1, this.n2, this.mks, this.ma, this.ml, this.f0, this.f5, fun i hi => by cases hi⟩
  · rw [List.pairwise_map]
    exact h.asc
theorem bare_follow (p : Nat) : followOf (cs.map bareC) p = -1 := by
  unfold followOf
  rw [List.getElem?_map]
  cases cs[p]? <;> rfl
theorem bare_mean (i : Nat) : meanAt g (cs.map bareC) i = meanAt g cs i := by
  unfold meanAt
  rw [← List.map_take, List.foldl_map]
  rfl
def onceR (bk : Int) (w : Nat) (q : Int × Int) : Rn := if bk ≤ w ∨ q.1 = q.2 then restR q.2 else ⟨q.1, q.2, w, bk⟩
theorem once_run (h0 : 0 ≤ bk) (h5 : bk ≤ 5) {a b : Int} (ha : 0 ≤ a ∧ a ≤ 9) (hb : 0 ≤ b ∧ b ≤ 9) (w : Nat) : tickN w (sentR (restR a) b bk) = onceR bk w (a, b) := by
  unfold onceR
  simp only
  by_cases h : a = b
  · subst h
    rw [if_pos (.inr rfl)]
    have : sentR (restR a) a bk = restR a := by
      unfold sentR
      rw [if_pos (show (restR a).e = a from rfl)]
    rw [this]
    induction w with
    | zero => rfl
    | succ w ih =>
      show tickR (tickN w (restR a)) = _
      rw [ih, tickR_rest]
  · by_cases hz : bk = 0
    · subst hz
      have : sentR (restR a) b 0 = restR b := by
        unfold sentR
        rw [if_neg (show ¬ (restR a).e = b from h), if_pos (.inl rfl)]
      rw [this, if_pos (.inl (by omega))]
      induction w with
      | zero => rfl
      | succ w ih =>
        show tickR (tickN w (restR b)) = _
        rw [ih, tickR_rest]
    · have : sentR (restR a) b bk = ⟨a, b, 0, bk⟩ := by
        unfold sentR
        rw [if_neg (show ¬ (restR a).e = b from h), levR_rest, if_neg (by omega)]
      rw [this, tickN_is (r := ⟨a, b, 0, bk⟩) ⟨ha.1, ha.2, hb.1, hb.2, by simp, h5, .inl (by simp only; omega)⟩]
      simp only
      by_cases hw : bk ≤ w
      · rw [if_neg (by omega), if_pos (.inl hw)]
      · rw [if_pos (by omega), if_neg (by omega)]
        simp
theorem held_off (c : Str) (l : Int) : heldS (heldS [] (.hold c l)) (.fre c) = [] := by
  have h1 : heldS [] (.hold c l) = [(c, l)] := by
    have : tableS [] (.hold c l) = [(c, l)] := rfl
    unfold heldS
    rw [this]
    have hs : srtS [c] = [c] := rfl
    simp [hs, lookM]
  rw [h1]
  unfold heldS
  have : tableS [(c, l)] (.fre c) = [] := by simp [tableS]
  rw [this]
  rfl
theorem mean_bounds (hg : g.Ok) (hc : LOk g cs) (i : Nat) : ∀ l ∈ meanAt g cs i, 0 ≤ l ∧ l ≤ 9 := fun l hl => by
  have := meanAt_bounds hg hc i l hl
  have := hg.t9
  omega
theorem zip_map_two {α β γ δ : Type} (f : α → β) (h : β × γ → δ) : ∀ (xs : List α) (ys : List γ), ((xs.map f).zip ys).map h = (xs.zip ys).map fun q => h (f q.1, q.2)
  | [], _ => rfl
  | x :: xs, [] => by simp
  | x :: xs, y :: ys => by
    rw [List.map_cons, List.zip_cons_cons, List.map_cons, zip_map_two f h xs ys, List.zip_cons_cons, List.map_cons]
theorem once_runs (h0 : 0 ≤ bk) (h5 : bk ≤ 5) (w : Nat) (one two : List Int) (h1 : ∀ l ∈ one, 0 ≤ l ∧ l ≤ 9) (h2 : ∀ l ∈ two, 0 ≤ l ∧ l ≤ 9) : (((one.map restR).zip two).map fun q => sentR q.1 q.2 bk).map (tickN w) = (one.zip two).map (onceR bk w) := by
  rw [zip_map_two, List.map_map]
  refine List.map_congr_left fun q hq => ?_
  have hq := List.of_mem_zip hq
  exact once_run h0 h5 (h1 _ hq.1) (h2 _ hq.2) w
theorem once_stage (hg : g.Ok) (hc : LOk g cs) (h0 : 0 ≤ bk) (h5 : bk ≤ 5) {p : Nat} {c : CU} (e : cs[p]? = some c) (n : Str) (hn : n ∈ g.chs) (w : Nat) :
    (lastS g (cs.map bareC) bk (firstS g) ((((([AC.jump c.num] ++ [.hold n 1, .fre n]) ++ List.replicate 5 .wait) ++ [.bck]) ++ List.replicate w .wait))).v = .tup [.tup ((((meanAt g cs (p + 1)).zip (meanAt g cs p)).map (onceR bk w)).map Rn.v), .int ((p : Int) - 1), .int (-1), .tup []] := by
  have hcb := bare_ok hc
  have eb : (cs.map bareC)[p]? = some (bareC c) := by rw [List.getElem?_map, e]; rfl
  have hco := hc.ok c (List.mem_of_getElem? e)
  have hpo := placeOf_at hcb eb
  obtain ⟨j1, j2, j3⟩ := step_jump (g := g) (bk := bk) (s := firstS g) hpo
  have t1 := hg.t1
  have ha1 : AsOk g ([AC.jump c.num] ++ [.hold n 1, .fre n]) := by
    intro a ha
    simp at ha
    rcases ha with rfl | rfl | rfl
    · exact ⟨hco.n1, hco.n2⟩
    · exact ⟨hn, by omega, by omega⟩
    · exact hn
  have ok1 := lastS_ok g (cs.map bareC) bk hg hcb h0 h5 _ (firstS g) firstS_ok ha1
  have go1 := lastS_goal hg hcb h0 h5 _ (firstS g) firstS_ok ha1 firstS_goal
  have l1 : lastS g (cs.map bareC) bk (firstS g) ([AC.jump c.num] ++ [.hold n 1, .fre n]) = stepS g (cs.map bareC) bk (stepS g (cs.map bareC) bk (stepS g (cs.map bareC) bk (firstS g) (.jump c.num)) (.hold n 1)) (.fre n) := rfl
  rw [lastS_app, lastS_app, lastS_app]
  have p1 : (lastS g (cs.map bareC) bk (firstS g) ([AC.jump c.num] ++ [.hold n 1, .fre n])).place = p := by rw [l1]; exact j1
  have d1 : (lastS g (cs.map bareC) bk (firstS g) ([AC.jump c.num] ++ [.hold n 1, .fre n])).due = -1 := by rw [l1]; exact j2.trans (bare_follow p)
  have h1 : (lastS g (cs.map bareC) bk (firstS g) ([AC.jump c.num] ++ [.hold n 1, .fre n])).held = [] := by
    rw [l1]
    show heldS (heldS (stepS g (cs.map bareC) bk (firstS g) (.jump c.num)).held (.hold n 1)) (.fre n) = []
    have j3 : (stepS g (cs.map bareC) bk (firstS g) (.jump c.num)).held = [] := j3
    rw [j3]
    exact held_off n 1
  generalize lastS g (cs.map bareC) bk (firstS g) ([AC.jump c.num] ++ [.hold n 1, .fre n]) = s1 at *
  have ok2 := lastS_ok g (cs.map bareC) bk hg hcb h0 h5 _ s1 ok1 (rep_ok (a := .wait) trivial 5)
  have hw := waits5 (bk := bk) ok1 go1 d1
  rw [hw] at ok2 ⊢
  rw [p1, h1, show ((p : Int) + 1).toNat = p + 1 by omega, bare_mean] at ok2 ⊢
  have e1 : ∀ (x : SG), lastS g (cs.map bareC) bk x [.bck] = stepS g (cs.map bareC) bk x .bck := fun _ => rfl
  rw [e1, back_runs ok2 (by show (0 : Int) ≤ (p : Int); omega)]
  rw [waits_runs rfl]
  unfold SG.v
  simp only
  rw [show ((p : Int)).toNat = p from Int.toNat_natCast p, bare_mean, once_runs h0 h5 w _ _ (mean_bounds hg hc _) (mean_bounds hg hc _)]
  rfl
theorem there_place (hg : g.Ok) (hc : LOk g cs) {p : Nat} {c : CU} (e : cs[p]? = some c) : (lastS g cs bk (firstS g) (([AC.jump c.num, .bck] ++ [.go]) ++ [.bck])).place = (p : Int) - 1 := by
  have hp := getElem?_lt e
  obtain ⟨j1, j2, j3⟩ := step_jump (g := g) (bk := bk) (s := firstS g) (placeOf_at hc e)
  have l1 : lastS g cs bk (firstS g) (([AC.jump c.num, .bck] ++ [.go]) ++ [.bck]) = stepS g cs bk (stepS g cs bk (stepS g cs bk (stepS g cs bk (firstS g) (.jump c.num)) .bck) .go) .bck := rfl
  rw [l1]
  generalize stepS g cs bk (firstS g) (.jump c.num) = s1 at *
  obtain ⟨b1, _⟩ := (step_back (g := g) (cs := cs) (bk := bk) (s := s1)).1 (by omega)
  generalize stepS g cs bk s1 .bck = s2 at *
  obtain ⟨g1, _⟩ := step_go (g := g) (cs := cs) (bk := bk) (s := s2) (p := p) (by omega) hp
  generalize stepS g cs bk s2 .go = s3 at *
  obtain ⟨b2, _⟩ := (step_back (g := g) (cs := cs) (bk := bk) (s := s3)).1 (by omega)
  omega
end
end Law
end
section
set_option Elab.async false
set_option linter.all false
set_option maxRecDepth 100000
set_option maxHeartbeats 4000000
set_option hygiene false
local macro_rules | `(tactic| array_get_dec) => `(tactic| first | refine Eng.wb_cons ?_ | refine Eng.ws_asg ?_ | refine Eng.ws_ret ?_ | refine Eng.ws_ife ?_ | refine Eng.ws_asgT ?_ | refine Eng.ws_par ?_ | refine Eng.ws_exp ?_ | refine Eng.wb_nil ?_ | refine Eng.ws_pass ?_ | refine Eng.ws_retN ?_ | refine Eng.ws_subS ?_ | refine Eng.ws_fldS ?_ | refine Eng.ws_app rfl ?_ | refine Eng.ws_brk ?_ | refine Eng.ws_cont ?_ | refine Eng.wv_of ?_ | refine Eng.wn_of ?_ | refine Eng.wt_of ?_ | refine Eng.we_var rfl ?_ | refine Eng.lk_of rfl ?_ | refine Eng.we_lit ?_ | refine Eng.fzw_v ?_ | refine Eng.fzw_val rfl ?_ | refine Eng.fzw_o ?_ | (apply Eng.fzw_own rfl; · (repeat (first | exact Eng.set_z | apply Eng.set_s))) | refine Eng.wf_cons ?_ | refine Eng.wf_nil ?_ | refine Eng.wa_cons ?_ | refine Eng.wa_nil ?_ | refine Eng.we_tup ?_ | refine Eng.we_ix ?_ | refine Eng.we_bin ?_ | refine Eng.we_cmp ?_ | refine Eng.we_fld ?_ | refine Eng.we_call ?_ | refine Eng.we_meth ?_ | refine Eng.we_blt ?_ | refine Eng.we_lst ?_ | refine Eng.we_ife ?_ | refine Eng.we_and2 ?_ | refine Eng.we_or2 ?_ | refine Eng.we_not ?_ | refine Eng.we_neg ?_ | refine Eng.we_isB ?_ | refine Eng.we_isC ?_ | refine Eng.we_chn ?_ | refine Eng.we_slc ?_ | refine Eng.we_dget1 ?_ | refine Eng.we_dget2 ?_ | refine Eng.isd_of rfl ?_ | refine Eng.we_dsp ?_ | refine Eng.wd_cons ?_ | refine Eng.wd_nil ?_ | refine Eng.wo_no ?_ | refine Eng.wo_so ?_ | refine Eng.wts_nil ?_ | refine Eng.wts_one ?_ | refine Eng.wi_seq ?_ | refine Eng.wi_rng1 ?_ | refine Eng.wi_rng2 ?_ | refine Eng.wi_enum ?_ | refine Eng.wi_zip ?_ | refine Eng.bo_addI ?_ | refine Eng.bo_subI ?_ | refine Eng.cm_ltI ?_ | refine Eng.cm_leI ?_ | refine Eng.cm_gtI ?_ | refine Eng.cm_geI ?_ | refine Eng.cm_eqI ?_ | refine Eng.cm_neI ?_ | refine Eng.cm_eqS ?_ | refine Eng.cm_neS ?_ | refine Eng.cm_isN ?_ | refine Eng.cm_isnotN ?_ | refine Eng.cm_inD rfl ?_ | refine Eng.cm_ninD rfl ?_ | refine Eng.cm_inTS ?_ | refine Eng.cm_inLS ?_ | refine Eng.cm_ninTS ?_ | refine Eng.cm_ninLS ?_ | refine Eng.ix_t0 ?_ | refine Eng.ix_t1 ?_ | refine Eng.ix_t2 ?_ | refine Eng.ix_t3 ?_ | refine Eng.ix_t4 ?_ | refine Eng.ix_l0 ?_ | refine Eng.ix_l1 ?_ | refine Eng.ix_l2 ?_ | refine Eng.ix_T (by with_reducible assumption) ?_ | refine Eng.ix_L (by with_reducible assumption) ?_ | refine Eng.in_of ?_ | refine Eng.tupn_of rfl ?_ | refine Eng.hd_of ?_ | refine Eng.dct_of ?_ | refine Eng.bo_mulI (by first | exact Eng.small_l (by first | decide | with_reducible assumption) | exact Eng.small_r (by first | decide | with_reducible assumption) | exact Eng.small_r (Eng.small_of' (by omega) (by omega)) | exact Eng.small_l (Eng.small_of' (by omega) (by omega))) ?_ | refine Eng.bo_fdiv (by first | decide | with_reducible assumption | exact Eng.nat31_of (by omega) (by omega)) ?_ | refine Eng.bo_mod (by first | decide | omega) ?_ | refine Eng.bo_addT (by first | with_reducible assumption | decide) ?_ | refine Eng.bo_addL (by first | with_reducible assumption | decide) ?_ | refine Eng.bo_addS (by first | with_reducible assumption | decide) ?_ | refine Eng.bo_of (by with_reducible assumption) ?_ | refine Eng.cm_of (by with_reducible assumption) ?_ | refine Eng.ix_of (by with_reducible assumption) ?_ | refine Eng.sl_of (by with_reducible assumption) ?_ | refine Eng.bl_of (by with_reducible assumption) ?_ | refine Eng.bl_divmod (by first | decide | with_reducible assumption | exact Eng.nat31_of (by omega) (by omega)) ?_ | refine Eng.fd_of (by with_reducible assumption) ?_ | refine Eng.me_of (by with_reducible assumption) ?_ | refine Eng.call_plain rfl rfl ?_ | refine Eng.call_well rfl (fun _ => rfl) ?_ | refine Eng.set_l0 ?_ | refine Eng.set_l1 ?_ | refine Eng.set_l2 ?_ | (apply Eng.stw_v; · (repeat (first | exact Eng.put_z rfl | exact Eng.put_z (by with_reducible assumption) | apply Eng.put_s))) | (apply Eng.stw_o; · (repeat (first | exact Eng.put_z rfl | exact Eng.put_z (by with_reducible assumption) | apply Eng.put_s))) | (apply Eng.stw_val rfl; · (repeat (first | exact Eng.put_z rfl | exact Eng.put_z (by with_reducible assumption) | apply Eng.put_s))) | (apply Eng.stw_own rfl; · (repeat (first | exact Eng.set_z | apply Eng.set_s)); · (repeat (first | exact Eng.put_z rfl | exact Eng.put_z (by with_reducible assumption) | apply Eng.put_s))) | refine Eng.stws_nil ?_ | (apply Eng.stws_cons; · (repeat (first | exact Eng.put_z rfl | exact Eng.put_z (by with_reducible assumption) | apply Eng.put_s))) | refine Eng.tgw_nil ?_ | (apply Eng.tgw_nm; · (repeat (first | exact Eng.put_z rfl | exact Eng.put_z (by with_reducible assumption) | apply Eng.put_s))) | refine Eng.tgw_sub ?_ | (apply Eng.wrw_own rfl; · (repeat (first | exact Eng.set_z | apply Eng.set_s))) | (apply Eng.wrw_lent rfl; · (repeat (first | exact Eng.set_z | apply Eng.set_s))) | refine Eng.mvw_v ?_ | refine Eng.mvw_o ?_ | refine Eng.mvw_val rfl ?_ | (apply Eng.mvw_own rfl; · (repeat (first | exact Eng.set_z | apply Eng.set_s))))
local macro_rules | `(tactic| array_mem_dec) => `(tactic| first | refine Eng.fd_of rfl ?_ | refine Eng.me_of rfl ?_ | refine Eng.wc_of (by with_reducible assumption) ?_ | refine Eng.sm_of rfl ?_ | refine Eng.sm_of (by with_reducible assumption) ?_ | refine Eng.tr_of rfl ?_ | refine Eng.tr_of (by with_reducible assumption) ?_ | refine Eng.bl_of rfl ?_ | refine Eng.sl_of rfl ?_ | refine Eng.bo_of rfl ?_ | refine Eng.cm_of rfl ?_ | refine Eng.ix_of rfl ?_ | refine Eng.outs_of rfl ?_ | refine Eng.ifb_t (by first | rfl | with_reducible assumption | (simp only [Bool.not_eq_true']; with_reducible assumption) | (simp only [decide_eq_true_eq, beq_iff_eq, Bool.not_eq_true', bne_iff_ne, decide_eq_false_iff_not, beq_eq_false_iff_ne, ne_eq]; omega) | decide) ?_ | refine Eng.ifb_f (by first | rfl | with_reducible assumption | (simp only [Bool.not_eq_false']; with_reducible assumption) | (simp only [decide_eq_false_iff_not, beq_eq_false_iff_ne, Bool.not_eq_false', ne_eq, beq_iff_eq, decide_eq_true_eq]; omega) | decide) ?_ | exact ⟨rfl, rfl⟩ | exact rfl | (refine Eng.ifb_s (fun hc => ?_) (fun hc => ?_) <;> (try simp only [decide_eq_true_eq, decide_eq_false_iff_not, beq_iff_eq, beq_eq_false_iff_ne, ne_eq, Bool.not_eq_true', Bool.not_eq_false', Int.not_lt, Int.not_le] at hc)))
namespace Law
open Eng PySem
/-! ### once, walked -/
theorem rigT_0 (g : RG) (hg : g.Ok) : ∃ n, n ∈ g.chs ∧ L2.atI (g.chs.map Val.str) 0 = some (.str n) := by
  have l1 := hg.l1
  have h0 : g.chs[0]? = some g.chs[0] := List.getElem?_eq_getElem (by omega)
  exact ⟨g.chs[0], List.getElem_mem _, atI_map (j := 0) h0⟩
theorem e_once (k : Nat) (g : RG) (cs : List CU) (bk : Int) (hg : g.Ok) (hc : LOk g cs) (h0 : 0 ≤ bk) (h5 : bk ≤ 5) (p w : Nat) (hp : p < cs.length) (hw : w ≤ 5) :
    Fk D (k+11) i__law_once_right [.val (clV g cs), .val (rigT g), .val (.tup (cs.map CU.v)), .val (.int bk), .val (.int (p : Int)), .val (.int (w : Int))] = some (.v (.bl true), [clV g cs, rigT g, .tup (cs.map CU.v), .int bk, .int (p : Int), .int (w : Int)]) := by
  refine wc_eq ?_
  refine wc_fn (F__law_once_right _ _) rfl (by simp only [startE, slotOf, List.map, List.length, List.replicate, List.cons_append, List.nil_append, List.length_cons, List.length_nil, Nat.reduceAdd, Nat.reduceSub]; rfl) ?_; show WB D _ B__law_once_right _ _ _ _ _; unfold B__law_once_right
  have e := List.getElem?_eq_getElem hp
  have hat := atI_cu cs e
  have hco := hc.ok _ (List.getElem_mem hp)
  obtain ⟨n, hn, hn0⟩ := rigT_0 g hg
  have hcb := bare_ok hc
  have t1 := hg.t1
  have l20 := hc.len
  have l8 := hg.l8
  have hst := once_stage (bk := bk) hg hc h0 h5 e n hn w
  have hth := there_place (bk := bk) hg hc e
  have hcj : AsOk g (([AC.jump cs[p].num, .bck] ++ [.go]) ++ [.bck]) := by
    intro a ha
    simp at ha
    rcases ha with rfl | rfl | rfl | rfl
    · exact ⟨hco.n1, hco.n2⟩
    all_goals trivial
  have hcs : AsOk g (((([AC.jump cs[p].num] ++ [.hold n 1, .fre n]) ++ List.replicate 5 .wait) ++ [.bck]) ++ List.replicate w .wait) := by
    refine app_ok (app_ok (app_ok ?_ (rep_ok (a := AC.wait) trivial 5)) ?_) (rep_ok (a := AC.wait) trivial w)
    · intro a ha
      simp at ha
      rcases ha with rfl | rfl | rfl
      · exact ⟨hco.n1, hco.n2⟩
      · exact ⟨hn, by omega, by omega⟩
      · exact hn
    · intro a ha
      rw [List.mem_singleton.mp ha]
      trivial
  have q1 := e_stage_behind (k+2) g cs bk hg hc h0 h5 _ hcj (by simp)
  have q2 := e_stage_behind (k+2) g (cs.map bareC) bk hg hcb h0 h5 _ hcs (by simp; omega)
  rw [hst] at q2
  have hq1 : ∃ a b c, (lastS g cs bk (firstS g) (([AC.jump cs[p].num, .bck] ++ [.go]) ++ [.bck])).v = .tup [a, .int ((p : Int) - 1), b, c] := ⟨_, _, _, by unfold SG.v; rw [hth]⟩
  obtain ⟨x1, x2, x3, hq1⟩ := hq1
  rw [hq1] at q1
  clear hst hth hq1
  have me1 := e_means (k + 9) g cs hg hc (p + 1) (by omega)
  rw [show ((p + 1 : Nat) : Int) - 1 = (p : Int) by omega] at me1
  have me2 := e_means (k + 9) g cs hg hc p (by omega)
  have hl := e_law_list k g (cs.map bareC) hg hcb
  have hlen1 : (meanAt g cs (p + 1)).length = g.chs.length := meanAt_len g cs _
  have hlen2 : (meanAt g cs p).length = g.chs.length := meanAt_len g cs _
  generalize cs[p].num = num at *
  generalize cs[p].mv = mv at *
  generalize cs[p].fol = fo at *
  generalize cs[p].fade = fade at *
  generalize cs[p].wh = wh at *
  generalize hone : meanAt g cs (p + 1) = one at *
  generalize htwo : meanAt g cs p = two at *
  have hs1 := e_same 0 (.int ((p : Int) - 1)) rfl (k + 9)
  have hz : (one.zip two).length = g.chs.length := by rw [List.length_zip, hlen1, hlen2]; omega
  have hs2 := e_same 3 (.tup [.tup (((one.zip two).map (onceR bk w)).map Rn.v), .int ((p : Int) - 1), .int (-1), .tup []]) (by
    refine plain_tup (by simp) ?_
    have h1 : Eng.plain 2 (.tup (((one.zip two).map (onceR bk w)).map Rn.v)) = true := plain_tup (by rw [List.length_map, List.length_map, hz]; omega) (plains_of 1 _ plain_rn _)
    show (Eng.plain 2 (.tup (((one.zip two).map (onceR bk w)).map Rn.v)) && _) = true
    rw [h1]
    rfl) (k + 6)
  unfold rigT
  refine wb_cut3 (fun ε => ε = [.val (clV g cs), .val (rigT g), .val (.tup (cs.map CU.v)), .val (.int bk), .val (.int (p : Int)), .val (.int (w : Int)), .val (.tup ((([AC.jump num, AC.bck] ++ [AC.go]) ++ [AC.bck]).map AC.v)), .val (.tup (([AC.jump num] ++ [AC.hold n 1, AC.fre n]).map AC.v)), .un, .un, .un, .un, .un, .val (lvV one), .val (lvV two), .un, .un]) ?_ ?_
  · unfold rigT at me1 me2
    (repeat' (first | array_get_dec | array_mem_dec))
  rintro ε1 rfl
  refine wb_cut (fun ε => ε = [.val (clV g cs), .val (rigT g), .val (.tup (cs.map CU.v)), .val (.int bk), .val (.int (p : Int)), .val (.int (w : Int)), .val (.tup ((([AC.jump num, AC.bck] ++ [AC.go]) ++ [AC.bck]).map AC.v)), .val (.tup (([AC.jump num] ++ [AC.hold n 1, AC.fre n]).map AC.v)), .val (.tup ((cs.map bareC).map CU.v)), .un, .un, .un, .un, .val (lvV one), .val (lvV two), .un, .un]) ?_ ?_
  · (repeat' (first | array_get_dec | array_mem_dec))
    refine we_lcD cs (fun c => .tup [.int c.num, .tup (c.mv.map mvV), .int c.fade, folV c.fol, .bl c.wh]) (fun _ => true) (fun c => (bareC c).v) ?_
    (repeat' (first | array_get_dec | array_mem_dec))
    refine ⟨rfl, cap_of (by omega), ⟨_, rfl, fun c hc => ?_⟩, ?_⟩
    · refine ⟨_, tg_one (by (repeat (first | exact put_z rfl | exact put_z (by with_reducible assumption) | apply put_s))), ?_⟩
      (repeat' (first | array_get_dec | array_mem_dec))
      refine ⟨rfl, ?_⟩
      (repeat' (first | array_get_dec | array_mem_dec))
    · rw [filter_true, show cs.map (fun c => (bareC c).v) = (cs.map bareC).map CU.v by rw [List.map_map]; rfl]
      (repeat' (first | array_get_dec | array_mem_dec))
  rintro ε1 rfl
  refine wb_cut2 (fun ε => ε = [.val (clV g cs), .val (rigT g), .val (.tup (cs.map CU.v)), .val (.int bk), .val (.int (p : Int)), .val (.int (w : Int)), .val (.tup ((([AC.jump num, AC.bck] ++ [AC.go]) ++ [AC.bck]).map AC.v)), .val (.tup (([AC.jump num] ++ [AC.hold n 1, AC.fre n]).map AC.v)), .val (.tup ((cs.map bareC).map CU.v)), .val (clV g (cs.map bareC)), .val (.tup ((((([AC.jump num] ++ [AC.hold n 1, AC.fre n]) ++ List.replicate 5 AC.wait) ++ [AC.bck]) ++ List.replicate w AC.wait).map AC.v)), .un, .un, .val (lvV one), .val (lvV two), .un, .un]) ?_ ?_
  · (repeat' (first | array_get_dec | (refine bo_mul5 AC.wait ?_) | (refine bo_mulN AC.wait w (by omega) ?_) | (refine bo_addA ([AC.jump num] ++ [AC.hold n 1, AC.fre n]) (List.replicate 5 AC.wait) (by simp) ?_) | (refine bo_addA (([AC.jump num] ++ [AC.hold n 1, AC.fre n]) ++ List.replicate 5 AC.wait) [AC.bck] (by simp) ?_) | (refine bo_addA ((([AC.jump num] ++ [AC.hold n 1, AC.fre n]) ++ List.replicate 5 AC.wait) ++ [AC.bck]) (List.replicate w AC.wait) (by simp; omega) ?_) | array_mem_dec))
  rintro ε1 rfl
  refine wb_cut2 (fun ε => ∃ s12 s15, free s12 = true ∧ free s15 = true ∧ ε = [.val (clV g cs), .val (rigT g), .val (.tup (cs.map CU.v)), .val (.int bk), .val (.int (p : Int)), .val (.int (w : Int)), .val (.tup ((([AC.jump num, AC.bck] ++ [AC.go]) ++ [AC.bck]).map AC.v)), .val (.tup (([AC.jump num] ++ [AC.hold n 1, AC.fre n]).map AC.v)), .val (.tup ((cs.map bareC).map CU.v)), .val (clV g (cs.map bareC)), .val (.tup ((((([AC.jump num] ++ [AC.hold n 1, AC.fre n]) ++ List.replicate 5 AC.wait) ++ [AC.bck]) ++ List.replicate w AC.wait).map AC.v)), .own (.lst (((one.zip two).map (onceR bk w)).map Rn.v)), s12, .val (lvV one), .val (lvV two), s15, .un]) ?_ ?_
  · unfold rigT
    (repeat' (first | array_get_dec | array_mem_dec))
    refine ws_forF (fun i ε => ∃ s12 s15, free s12 = true ∧ free s15 = true ∧ ε = [.val (clV g cs), .val (.tup [g.nv, .int g.top]), .val (.tup (cs.map CU.v)), .val (.int bk), .val (.int (p : Int)), .val (.int (w : Int)), .val (.tup ((([AC.jump num, AC.bck] ++ [AC.go]) ++ [AC.bck]).map AC.v)), .val (.tup (([AC.jump num] ++ [AC.hold n 1, AC.fre n]).map AC.v)), .val (.tup ((cs.map bareC).map CU.v)), .val (clV g (cs.map bareC)), .val (.tup ((((([AC.jump num] ++ [AC.hold n 1, AC.fre n]) ++ List.replicate 5 AC.wait) ++ [AC.bck]) ++ List.replicate w AC.wait).map AC.v)), .own (.lst ((((one.zip two).take i).map (onceR bk w)).map Rn.v)), s12, .val (lvV one), .val (lvV two), s15, .un]) ?_
    (repeat' (first | array_get_dec | array_mem_dec))
    have hcl : (g.chs.map Val.str).length = g.chs.length := List.length_map ..
    rw [hcl]
    refine ⟨inR_of (by omega) (by omega), rfl, ⟨_, _, rfl, rfl, rfl⟩, ?_, ?_⟩
    · rintro i x ε2 hx ⟨s12, s15, f12, f15, rfl⟩
      rw [range_map, List.getElem?_map] at hx
      have hi : i < g.chs.length := by
        rcases Nat.lt_or_ge i g.chs.length with g | g
        · exact g
        · rw [List.getElem?_eq_none (by simpa using g)] at hx; cases hx
      rw [List.getElem?_range hi] at hx
      cases hx
      have ex := List.getElem?_eq_getElem (show i < one.length by omega)
      have ey := List.getElem?_eq_getElem (show i < two.length by omega)
      have ez : (one.zip two)[i]? = some (one[i], two[i]) := (List.getElem?_zip_eq_some (z := (one[i], two[i]))).mpr ⟨ex, ey⟩
      have ax := atI_map (f := Val.int) ex
      have ay := atI_map (f := Val.int) ey
      generalize one[i] = x at *
      generalize two[i] = y at *
      have hcap : ((((one.zip two).take i).map (onceR bk w)).map Rn.v).length < cap := by
        rw [List.length_map, List.length_map, List.length_take]
        exact cap_lt (by omega)
      refine ⟨_, tg_one (by (repeat (first | exact put_z rfl | exact put_z (by with_reducible assumption) | apply put_s))), ?_⟩
      unfold lvV
      rw [take_snoc ez]
      simp only [List.map_append, List.map_cons, List.map_nil]
      by_cases hov : bk ≤ (w : Int) ∨ x = y
      · have ho : onceR bk w (x, y) = restR y := by
          unfold onceR
          rw [if_pos hov]
        rw [ho]
        (repeat' (first | array_get_dec | array_mem_dec))
        all_goals first
          | (refine ⟨hcap, ?_⟩; (repeat' (first | array_get_dec | array_mem_dec)); exact ⟨_, _, rfl, rfl, rfl⟩)
          | omega
      · have ho : onceR bk w (x, y) = ⟨x, y, w, bk⟩ := by
          unfold onceR
          rw [if_neg hov]
        rw [ho]
        (repeat' (first | array_get_dec | array_mem_dec))
        all_goals first
          | (refine ⟨hcap, ?_⟩; (repeat' (first | array_get_dec | array_mem_dec)); exact ⟨_, _, rfl, rfl, rfl⟩)
          | omega
    · rintro ε2 ⟨s12, s15, f12, f15, rfl⟩
      rw [range_len, show ((g.chs.length : Nat) : Int).toNat = g.chs.length from Int.toNat_natCast _, List.take_of_length_le (by omega)]
      (repeat' (first | array_get_dec | array_mem_dec))
      exact ⟨_, _, f12, f15, rfl⟩
  rintro ε1 ⟨s12, s15, f12, f15, rfl⟩
  (repeat' (first | array_get_dec | array_mem_dec))
end Law
end
section
set_option Elab.async false
set_option linter.all false
set_option maxRecDepth 100000
set_option maxHeartbeats 4000000
set_option hygiene false
local macro_rules | `(tactic| array_get_dec) => `(tactic| first | refine Eng.wb_cons ?_ | refine Eng.ws_asg ?_ | refine Eng.ws_ret ?_ | refine Eng.ws_ife ?_ | refine Eng.ws_asgT ?_ | refine Eng.ws_par ?_ | refine Eng.ws_exp ?_ | refine Eng.wb_nil ?_ | refine Eng.ws_pass ?_ | refine Eng.ws_retN ?_ | refine Eng.ws_subS ?_ | refine Eng.ws_fldS ?_ | refine Eng.ws_app rfl ?_ | refine Eng.ws_brk ?_ | refine Eng.ws_cont ?_ | refine Eng.wv_of ?_ | refine Eng.wn_of ?_ | refine Eng.wt_of ?_ | refine Eng.we_var rfl ?_ | refine Eng.lk_of rfl ?_ | refine Eng.we_lit ?_ | refine Eng.fzw_v ?_ | refine Eng.fzw_val rfl ?_ | refine Eng.fzw_o ?_ | (apply Eng.fzw_own rfl; · (repeat (first | exact Eng.set_z | apply Eng.set_s))) | refine Eng.wf_cons ?_ | refine Eng.wf_nil ?_ | refine Eng.wa_cons ?_ | refine Eng.wa_nil ?_ | refine Eng.we_tup ?_ | refine Eng.we_ix ?_ | refine Eng.we_bin ?_ | refine Eng.we_cmp ?_ | refine Eng.we_fld ?_ | refine Eng.we_call ?_ | refine Eng.we_meth ?_ | refine Eng.we_blt ?_ | refine Eng.we_lst ?_ | refine Eng.we_ife ?_ | refine Eng.we_and2 ?_ | refine Eng.we_or2 ?_ | refine Eng.we_not ?_ | refine Eng.we_neg ?_ | refine Eng.we_isB ?_ | refine Eng.we_isC ?_ | refine Eng.we_chn ?_ | refine Eng.we_slc ?_ | refine Eng.we_dget1 ?_ | refine Eng.we_dget2 ?_ | refine Eng.isd_of rfl ?_ | refine Eng.we_dsp ?_ | refine Eng.wd_cons ?_ | refine Eng.wd_nil ?_ | refine Eng.wo_no ?_ | refine Eng.wo_so ?_ | refine Eng.wts_nil ?_ | refine Eng.wts_one ?_ | refine Eng.wi_seq ?_ | refine Eng.wi_rng1 ?_ | refine Eng.wi_rng2 ?_ | refine Eng.wi_enum ?_ | refine Eng.wi_zip ?_ | refine Eng.bo_addI ?_ | refine Eng.bo_subI ?_ | refine Eng.cm_ltI ?_ | refine Eng.cm_leI ?_ | refine Eng.cm_gtI ?_ | refine Eng.cm_geI ?_ | refine Eng.cm_eqI ?_ | refine Eng.cm_neI ?_ | refine Eng.cm_eqS ?_ | refine Eng.cm_neS ?_ | refine Eng.cm_isN ?_ | refine Eng.cm_isnotN ?_ | refine Eng.cm_inD rfl ?_ | refine Eng.cm_ninD rfl ?_ | refine Eng.cm_inTS ?_ | refine Eng.cm_inLS ?_ | refine Eng.cm_ninTS ?_ | refine Eng.cm_ninLS ?_ | refine Eng.ix_t0 ?_ | refine Eng.ix_t1 ?_ | refine Eng.ix_t2 ?_ | refine Eng.ix_t3 ?_ | refine Eng.ix_t4 ?_ | refine Eng.ix_l0 ?_ | refine Eng.ix_l1 ?_ | refine Eng.ix_l2 ?_ | refine Eng.ix_T (by with_reducible assumption) ?_ | refine Eng.ix_L (by with_reducible assumption) ?_ | refine Eng.in_of ?_ | refine Eng.tupn_of rfl ?_ | refine Eng.hd_of ?_ | refine Eng.dct_of ?_ | refine Eng.bo_mulI (by first | exact Eng.small_l (by first | decide | with_reducible assumption) | exact Eng.small_r (by first | decide | with_reducible assumption) | exact Eng.small_r (Eng.small_of' (by omega) (by omega)) | exact Eng.small_l (Eng.small_of' (by omega) (by omega))) ?_ | refine Eng.bo_fdiv (by first | decide | with_reducible assumption | exact Eng.nat31_of (by omega) (by omega)) ?_ | refine Eng.bo_mod (by first | decide | omega) ?_ | refine Eng.bo_addT (by first | with_reducible assumption | decide) ?_ | refine Eng.bo_addL (by first | with_reducible assumption | decide) ?_ | refine Eng.bo_addS (by first | with_reducible assumption | decide) ?_ | refine Eng.bo_of (by with_reducible assumption) ?_ | refine Eng.cm_of (by with_reducible assumption) ?_ | refine Eng.ix_of (by with_reducible assumption) ?_ | refine Eng.sl_of (by with_reducible assumption) ?_ | refine Eng.bl_of (by with_reducible assumption) ?_ | refine Eng.bl_divmod (by first | decide | with_reducible assumption | exact Eng.nat31_of (by omega) (by omega)) ?_ | refine Eng.fd_of (by with_reducible assumption) ?_ | refine Eng.me_of (by with_reducible assumption) ?_ | refine Eng.call_plain rfl rfl ?_ | refine Eng.call_well rfl (fun _ => rfl) ?_ | refine Eng.set_l0 ?_ | refine Eng.set_l1 ?_ | refine Eng.set_l2 ?_ | (apply Eng.stw_v; · (repeat (first | exact Eng.put_z rfl | exact Eng.put_z (by with_reducible assumption) | apply Eng.put_s))) | (apply Eng.stw_o; · (repeat (first | exact Eng.put_z rfl | exact Eng.put_z (by with_reducible assumption) | apply Eng.put_s))) | (apply Eng.stw_val rfl; · (repeat (first | exact Eng.put_z rfl | exact Eng.put_z (by with_reducible assumption) | apply Eng.put_s))) | (apply Eng.stw_own rfl; · (repeat (first | exact Eng.set_z | apply Eng.set_s)); · (repeat (first | exact Eng.put_z rfl | exact Eng.put_z (by with_reducible assumption) | apply Eng.put_s))) | refine Eng.stws_nil ?_ | (apply Eng.stws_cons; · (repeat (first | exact Eng.put_z rfl | exact Eng.put_z (by with_reducible assumption) | apply Eng.put_s))) | refine Eng.tgw_nil ?_ | (apply Eng.tgw_nm; · (repeat (first | exact Eng.put_z rfl | exact Eng.put_z (by with_reducible assumption) | apply Eng.put_s))) | refine Eng.tgw_sub ?_ | (apply Eng.wrw_own rfl; · (repeat (first | exact Eng.set_z | apply Eng.set_s))) | (apply Eng.wrw_lent rfl; · (repeat (first | exact Eng.set_z | apply Eng.set_s))) | refine Eng.mvw_v ?_ | refine Eng.mvw_o ?_ | refine Eng.mvw_val rfl ?_ | (apply Eng.mvw_own rfl; · (repeat (first | exact Eng.set_z | apply Eng.set_s))))
local macro_rules | `(tactic| array_mem_dec) => `(tactic| first | refine Eng.fd_of rfl ?_ | refine Eng.me_of rfl ?_ | refine Eng.wc_of (by with_reducible assumption) ?_ | refine Eng.sm_of rfl ?_ | refine Eng.sm_of (by with_reducible assumption) ?_ | refine Eng.tr_of rfl ?_ | refine Eng.tr_of (by with_reducible assumption) ?_ | refine Eng.bl_of rfl ?_ | refine Eng.sl_of rfl ?_ | refine Eng.bo_of rfl ?_ | refine Eng.cm_of rfl ?_ | refine Eng.ix_of rfl ?_ | refine Eng.outs_of rfl ?_ | refine Eng.ifb_t (by first | rfl | with_reducible assumption | (simp only [Bool.not_eq_true']; with_reducible assumption) | (simp only [decide_eq_true_eq, beq_iff_eq, Bool.not_eq_true', bne_iff_ne, decide_eq_false_iff_not, beq_eq_false_iff_ne, ne_eq]; omega) | decide) ?_ | refine Eng.ifb_f (by first | rfl | with_reducible assumption | (simp only [Bool.not_eq_false']; with_reducible assumption) | (simp only [decide_eq_false_iff_not, beq_eq_false_iff_ne, Bool.not_eq_false', ne_eq, beq_iff_eq, decide_eq_true_eq]; omega) | decide) ?_ | exact ⟨rfl, rfl⟩ | exact rfl | (refine Eng.ifb_s (fun hc => ?_) (fun hc => ?_) <;> (try simp only [decide_eq_true_eq, decide_eq_false_iff_not, beq_iff_eq, beq_eq_false_iff_ne, ne_eq, Bool.not_eq_true', Bool.not_eq_false', Int.not_lt, Int.not_le] at hc)))
namespace Law
open Eng PySem
/-! ### back ahead of the first cue -/
theorem held_on (c : Str) (l : Int) : heldS [] (.hold c l) = [(c, l)] := by
  have : tableS [] (.hold c l) = [(c, l)] := rfl
  unfold heldS
  rw [this]
  have hs : srtS [c] = [c] := rfl
  simp [hs, lookM]
def firstV (g : RG) (n : Str) : Val := .tup [.tup (g.chs.map fun _ => .tup [.int 0, .int 0, .int 0, .int 0]), .int (-1), .int (-1), .tup [.tup [.str n, .int 1]]]
section
variable {g : RG} {cs : List CU} {bk : Int} {n : Str}
theorem first_sv : SG.v ⟨List.replicate g.chs.length (restR 0), -1, -1, [(n, 1)]⟩ = firstV g n := by
  unfold SG.v firstV
  simp only [List.map_replicate, List.map_const']
  rfl
theorem first_one : lastS g cs bk (firstS g) [.bck, .hold n 1, .bck] = ⟨List.replicate g.chs.length (restR 0), -1, -1, [(n, 1)]⟩ := by
  show stepS g cs bk (stepS g cs bk (stepS g cs bk (firstS g) .bck) (.hold n 1)) .bck = _
  rw [back_idle (by show ¬ (0 : Int) ≤ -1; omega)]
  have : stepS g cs bk (firstS g) (.hold n 1) = ⟨List.replicate g.chs.length (restR 0), -1, -1, [(n, 1)]⟩ := by
    show SG.mk _ _ _ (heldS [] (.hold n 1)) = _
    rw [held_on]
    rfl
  rw [back_idle (by show ¬ (0 : Int) ≤ -1; omega), this]
theorem first_two : lastS g cs bk (firstS g) ([.bck, .hold n 1, .bck] ++ [.wait, .bck]) = ⟨List.replicate g.chs.length (restR 0), -1, -1, [(n, 1)]⟩ := by
  rw [lastS_app, first_one]
  show stepS g cs bk (stepS g cs bk _ .wait) .bck = _
  rw [wait_runs rfl]
  simp only [List.map_replicate, tickR_rest]
  rw [back_idle (by show ¬ (0 : Int) ≤ -1; omega)]
end
theorem e_firstR (k : Nat) (g : RG) (cs : List CU) (bk : Int) (hg : g.Ok) (hc : LOk g cs) (h0 : 0 ≤ bk) (h5 : bk ≤ 5) :
    Fk D (k+11) i__law_first_right [.val (clV g cs), .val (rigT g), .val (.int bk)] = some (.v (.bl true), [clV g cs, rigT g, .int bk]) := by
  refine wc_eq ?_
  refine wc_fn (F__law_first_right _ _) rfl (by simp only [startE, slotOf, List.map, List.length, List.replicate, List.cons_append, List.nil_append, List.length_cons, List.length_nil, Nat.reduceAdd, Nat.reduceSub]; rfl) ?_; show WB D _ B__law_first_right _ _ _ _ _; unfold B__law_first_right
  obtain ⟨n, hn, hn0⟩ := rigT_0 g hg
  have t1 := hg.t1
  have l8 := hg.l8
  have ha : AsOk g [AC.bck, .hold n 1, .bck] := by
    intro a ha
    simp at ha
    rcases ha with rfl | rfl | rfl
    · trivial
    · exact ⟨hn, by omega, by omega⟩
    · trivial
  have hb : AsOk g ([AC.bck, .hold n 1, .bck] ++ [.wait, .bck]) := app_ok ha (by
    intro a ha
    simp at ha
    rcases ha with rfl | rfl <;> trivial)
  have q1 := e_stage_behind (k+2) g cs bk hg hc h0 h5 _ ha (by simp)
  have q2 := e_stage_behind (k+2) g cs bk hg hc h0 h5 _ hb (by simp)
  rw [first_one, first_sv] at q1
  rw [first_two, first_sv] at q2
  have q1 : Fk D (k+10) i_stage_behind [.val (clV g cs), .val (.int bk), .val (.tup [.tup [.str (Sl [98, 97, 99, 107])], .tup [.str (Sl [104, 111, 108, 100]), .str n, .int 1], .tup [.str (Sl [98, 97, 99, 107])]])] = some (.v (firstV g n), [clV g cs, .int bk, .tup [.tup [.str (Sl [98, 97, 99, 107])], .tup [.str (Sl [104, 111, 108, 100]), .str n, .int 1], .tup [.str (Sl [98, 97, 99, 107])]]]) := q1
  have q2 : Fk D (k+10) i_stage_behind [.val (clV g cs), .val (.int bk), .val (.tup ([.tup [.str (Sl [98, 97, 99, 107])], .tup [.str (Sl [104, 111, 108, 100]), .str n, .int 1], .tup [.str (Sl [98, 97, 99, 107])]] ++ [.tup [.str (Sl [119, 97, 105, 116])], .tup [.str (Sl [98, 97, 99, 107])]]))] = some (.v (firstV g n), [clV g cs, .int bk, .tup ([.tup [.str (Sl [98, 97, 99, 107])], .tup [.str (Sl [104, 111, 108, 100]), .str n, .int 1], .tup [.str (Sl [98, 97, 99, 107])]] ++ [.tup [.str (Sl [119, 97, 105, 116])], .tup [.str (Sl [98, 97, 99, 107])]])]) := q2
  have hs : Fk D (k+10) i__law_same [.val (.tup [firstV g n, firstV g n]), .val (.tup [firstV g n, firstV g n])] = some (.v (.bl true), [.tup [firstV g n, firstV g n], .tup [firstV g n, firstV g n]]) := e_same 4 _ (by
    have hp : Eng.plain 3 (firstV g n) = true := by
      refine plain_tup (by simp) ?_
      have h1 : Eng.plain 2 (.tup (g.chs.map fun _ => .tup [.int 0, .int 0, .int 0, .int 0])) = true := plain_tup (by rw [List.length_map]; omega) (plains_of 1 _ (fun _ => rfl) _)
      show (Eng.plain 2 (.tup (g.chs.map fun _ => .tup [.int 0, .int 0, .int 0, .int 0])) && _) = true
      rw [h1]
      rfl
    refine plain_tup (by simp) ?_
    show (Eng.plain 3 (firstV g n) && (Eng.plain 3 (firstV g n) && true)) = true
    rw [hp]
    rfl) (k + 5)
  unfold rigT
  refine wb_cut2 (fun ε => ∃ s5, free s5 = true ∧ ε = [.val (clV g cs), .val (rigT g), .val (.int bk), .val (.tup [.tup [.str (Sl [98, 97, 99, 107])], .tup [.str (Sl [104, 111, 108, 100]), .str n, .int 1], .tup [.str (Sl [98, 97, 99, 107])]]), .val (firstV g n), s5]) ?_ ?_
  · (repeat' (first | array_get_dec | array_mem_dec))
    refine we_lcD g.chs Val.str (fun _ => true) (fun _ => .tup [.int 0, .int 0, .int 0, .int 0]) ?_
    (repeat' (first | array_get_dec | array_mem_dec))
    refine ⟨rfl, cap_of (by omega), ⟨_, rfl, fun c hc => ?_⟩, ?_⟩
    · refine ⟨_, tg_one (by (repeat (first | exact put_z rfl | exact put_z (by with_reducible assumption) | apply put_s))), ?_⟩
      (repeat' (first | array_get_dec | array_mem_dec))
      refine ⟨rfl, ?_⟩
      (repeat' (first | array_get_dec | array_mem_dec))
    · rw [filter_true]
      (repeat' (first | array_get_dec | array_mem_dec))
      exact ⟨_, rfl, rfl⟩
  rintro ε1 ⟨s5, f5, rfl⟩
  (repeat' (first | array_get_dec | array_mem_dec))
/-! ### back in the midst of a fade -/
def agG (n : Str) : RG := ⟨[n], 9⟩
def agC (n : Str) : List CU := [⟨4, [(n, 9)], 3, none, true⟩]
section
variable {n : Str} {bk : Int}
theorem ag_ok (hn : Nm n) : (agG n).Ok := ⟨by unfold agG Asc; simp, by unfold agG; simp; exact hn, by simp [agG], by simp [agG], by simp [agG], by simp [agG]⟩
theorem ag_lok : LOk (agG n) (agC n) := by
  refine ⟨?_, by simp [agC], by simp [agC]⟩
  intro c hc
  simp [agC] at hc
  subst hc
  exact ⟨by simp, by simp, by simp [agG], by simp, by simp, by simp, by simp, (fun i h => by cases h)⟩
theorem ag_m0 : meanAt (agG n) (agC n) 0 = [0] := rfl
theorem ag_m1 : meanAt (agG n) (agC n) 1 = [9] := by simp [meanAt, agG, agC, behindM, lookM]
theorem ag_st0 : startS (agG n) (agC n) 0 = ⟨0, -1, .to [0] 3⟩ := rfl
theorem ag_go {r : Rn} : stepS (agG n) (agC n) bk ⟨[r], -1, -1, []⟩ .go = ⟨[sentR r 9 3], 0, -1, []⟩ := by
  have hm : moveS (agG n) (agC n) bk (-1) (-1) .go = ⟨0, -1, .to [0] 3⟩ := ag_st0
  show SG.mk [runB (agG n) (agC n) .go (moveS (agG n) (agC n) bk (-1) (-1) .go) 0 r] (moveS (agG n) (agC n) bk (-1) (-1) .go).p (moveS (agG n) (agC n) bk (-1) (-1) .go).d [] = _
  rw [hm]
  show SG.mk [sentR r ((meanAt (agG n) (agC n) 1)[0]?.getD 0) 3] 0 (-1) [] = _
  rw [ag_m1]
  rfl
theorem ag_back {r : Rn} : stepS (agG n) (agC n) bk ⟨[r], 0, -1, []⟩ .bck = ⟨[sentR r 0 bk], -1, -1, []⟩ := by
  have hm : moveS (agG n) (agC n) bk 0 (-1) .bck = ⟨-1, -1, .to [0] bk⟩ := rfl
  show SG.mk [runB (agG n) (agC n) .bck (moveS (agG n) (agC n) bk 0 (-1) .bck) 0 r] (moveS (agG n) (agC n) bk 0 (-1) .bck).p (moveS (agG n) (agC n) bk 0 (-1) .bck).d [] = _
  rw [hm]
  rfl
theorem ag_wait {r : Rn} {p : Int} : stepS (agG n) (agC n) bk ⟨[r], p, -1, []⟩ .wait = ⟨[tickR r], p, -1, []⟩ := wait_runs rfl
theorem ag_jump {s : SG} : stepS (agG n) (agC n) bk s (.jump 5) = s := step_idle (.inr ⟨5, rfl⟩) rfl
def agA : List AC := [.go, .wait, .bck, .wait, .bck, .jump 5, .bck]
theorem ag_stage (h2 : 2 ≤ bk) (h5 : bk ≤ 5) : lastS (agG n) (agC n) bk (firstS (agG n)) agA = ⟨[⟨3, 0, 1, bk⟩], -1, -1, []⟩ := by
  show stepS _ _ _ (stepS _ _ _ (stepS _ _ _ (stepS _ _ _ (stepS _ _ _ (stepS _ _ _ (stepS _ _ _ ⟨[restR 0], -1, -1, []⟩ .go) .wait) .bck) .wait) .bck) (.jump 5)) .bck = _
  have h : bk = 2 ∨ bk = 3 ∨ bk = 4 ∨ bk = 5 := by omega
  rw [ag_go, ag_wait, ag_back, ag_wait, back_idle (by show ¬ (0 : Int) ≤ -1; omega), ag_jump, back_idle (by show ¬ (0 : Int) ≤ -1; omega)]
  rcases h with rfl | rfl | rfl | rfl <;> rfl
def agH (bk : Int) : Int := 3 - (3 + bk - 1) / bk
theorem ag_stage2 (h2 : 2 ≤ bk) (h5 : bk ≤ 5) : lastS (agG n) (agC n) bk (firstS (agG n)) (agA ++ [.go]) = ⟨[⟨agH bk, 9, 0, 3⟩], 0, -1, []⟩ := by
  rw [lastS_app, ag_stage h2 h5]
  show stepS _ _ _ _ .go = _
  rw [ag_go]
  have h : bk = 2 ∨ bk = 3 ∨ bk = 4 ∨ bk = 5 := by omega
  rcases h with rfl | rfl | rfl | rfl <;> rfl
theorem ag_look (h2 : 2 ≤ bk) (h5 : bk ≤ 5) : lookS (agG n) ⟨[⟨3, 0, 1, bk⟩], -1, -1, []⟩ = [agH bk] := by
  have h : bk = 2 ∨ bk = 3 ∨ bk = 4 ∨ bk = 5 := by omega
  rcases h with rfl | rfl | rfl | rfl <;> rfl
end
theorem s_aged (k : Nat) (w0 w1 w2 : Int) {Q : RV → List Val → Prop} (q : ∀ a b c, Q (.v (.bl true)) [wl a b c]) : WC (Fk D (k+11) i__law_aged) [.lent (wl w0 w1 w2)] Q := by
  refine wc_fn (F__law_aged _ _) rfl (by simp only [startE, slotOf, List.map, List.length, List.replicate, List.cons_append, List.nil_append, List.length_cons, List.length_nil, Nat.reduceAdd, Nat.reduceSub]; rfl) ?_; show WB D _ B__law_aged _ _ _ _ _; unfold B__law_aged
  refine wb_cut (fun ε => ∃ a b c, ∃ n : Str, ∃ bk : Int, Nm n ∧ 2 ≤ bk ∧ bk ≤ 5 ∧ ε = [.lent (wl a b c), .un, .un, .un, .un, .val (.str n), .val (.int bk)]) ?_ ?_
  · (repeat' (first | array_get_dec | (refine s_take _ _ _ _ _ (by omega) (by omega) (fun r wa wb wc hr0 hr1 => ?_)) | (refine s_name _ _ _ _ [] (by simp) (fun s a b c hs _ => ?_)) | array_mem_dec))
    exact ⟨_, _, _, _, _, by assumption, by omega, by omega, rfl⟩
  rintro ε1 ⟨a, b, c, n, bk, hn, h2, h5, rfl⟩
  have hg := ag_ok hn
  have hc := ag_lok (n := n)
  have hl : Fk D (k+10) i__law_list [.val (.tup [.tup [.str n], .int 9]), .val (.tup [.tup [.int 4, .tup [.tup [.str n, .int 9]], .int 3, .non, .bl true]])] = some (.v (clV (agG n) (agC n)), [.tup [.tup [.str n], .int 9], .tup [.tup [.int 4, .tup [.tup [.str n, .int 9]], .int 3, .non, .bl true]]]) := e_law_list k (agG n) (agC n) hg hc
  have ha : AsOk (agG n) agA := by
    intro a ha
    simp [agA] at ha
    rcases ha with rfl | rfl | rfl | rfl | rfl | rfl | rfl
    · trivial
    · trivial
    · trivial
    · trivial
    · trivial
    · exact ⟨by omega, by omega⟩
    · trivial
  have hb : AsOk (agG n) (agA ++ [.go]) := app_ok ha (fun a h => by rw [List.mem_singleton.mp h]; trivial)
  have q1 := e_stage_behind (k+2) (agG n) (agC n) bk hg hc (by omega) h5 _ ha (by simp [agA])
  have q2 := e_stage_behind (k+2) (agG n) (agC n) bk hg hc (by omega) h5 _ hb (by simp [agA])
  have q3 := e_look_of (k+2) (agG n) (agC n) bk hg hc (by omega) h5 _ ha (by simp [agA])
  rw [ag_stage h2 h5] at q1 q3
  rw [ag_stage2 h2 h5, List.map_append] at q2
  have q2 : Fk D (k+10) i_stage_behind [.val (clV (agG n) (agC n)), .val (.int bk), .val (.tup (agA.map AC.v ++ [.tup [.str (Sl [103, 111])]]))] = some (.v (SG.v ⟨[⟨agH bk, 9, 0, 3⟩], 0, -1, []⟩), [clV (agG n) (agC n), .int bk, .tup (agA.map AC.v ++ [.tup [.str (Sl [103, 111])]])]) := q2
  rw [ag_look h2 h5] at q3
  refine wb_cut2 (fun ε => ε = [.lent (wl a b c), .val (clV (agG n) (agC n)), .val (.tup (agA.map AC.v)), .un, .un, .val (.str n), .val (.int bk)]) ?_ ?_
  · (repeat' (first | array_get_dec | array_mem_dec))
  rintro ε1 rfl
  have hs1 : Fk D (k+10) i__law_same [.val (SG.v ⟨[⟨3, 0, 1, bk⟩], -1, -1, []⟩), .val (.tup [.tup [.tup [.int 3, .int 0, .int 1, .int bk]], .int (-1), .int (-1), .tup []])] = some (.v (.bl true), [SG.v ⟨[⟨3, 0, 1, bk⟩], -1, -1, []⟩, .tup [.tup [.tup [.int 3, .int 0, .int 1, .int bk]], .int (-1), .int (-1), .tup []]]) := e_same 3 (.tup [.tup [.tup [.int 3, .int 0, .int 1, .int bk]], .int (-1), .int (-1), .tup []]) rfl (k + 6)
  refine wb_cut (fun ε => ε = [.lent (wl a b c), .val (clV (agG n) (agC n)), .val (.tup (agA.map AC.v)), .un, .un, .val (.str n), .val (.int bk)]) ?_ ?_
  · (repeat' (first | array_get_dec | array_mem_dec))
  rintro ε1 rfl
  refine wb_cut2 (fun ε => ε = [.lent (wl a b c), .val (clV (agG n) (agC n)), .val (.tup (agA.map AC.v)), .val (.int (agH bk)), .val (.tup [.tup [.tup [.int (agH bk), .int 9, .int 0, .int 3]], .int 0, .int (-1), .tup []]), .val (.str n), .val (.int bk)]) ?_ ?_
  · (repeat' (first | array_get_dec | array_mem_dec))
  rintro ε1 rfl
  generalize agH bk = h at *
  have hs2 : Fk D (k+10) i__law_same [.val (.tup [SG.v ⟨[⟨h, 9, 0, 3⟩], 0, -1, []⟩, lvV [h]]), .val (.tup [.tup [.tup [.tup [.int h, .int 9, .int 0, .int 3]], .int 0, .int (-1), .tup []], .tup [.int h]])] = some (.v (.bl true), [.tup [SG.v ⟨[⟨h, 9, 0, 3⟩], 0, -1, []⟩, lvV [h]], .tup [.tup [.tup [.tup [.int h, .int 9, .int 0, .int 3]], .int 0, .int (-1), .tup []], .tup [.int h]]]) := e_same 4 (.tup [.tup [.tup [.tup [.int h, .int 9, .int 0, .int 3]], .int 0, .int (-1), .tup []], .tup [.int h]]) rfl (k + 5)
  (repeat' (first | array_get_dec | array_mem_dec))
  exact q _ _ _
end Law
end
section
set_option Elab.async false
set_option linter.all false
set_option maxRecDepth 100000
set_option maxHeartbeats 4000000
set_option hygiene false
local macro_rules | `(tactic| array_get_dec) => `(tactic| first | refine Eng.wb_cons ?_ | refine Eng.ws_asg ?_ | refine Eng.ws_ret ?_ | refine Eng.ws_ife ?_ | refine Eng.ws_asgT ?_ | refine Eng.ws_par ?_ | refine Eng.ws_exp ?_ | refine Eng.wb_nil ?_ | refine Eng.ws_pass ?_ | refine Eng.ws_retN ?_ | refine Eng.ws_subS ?_ | refine Eng.ws_fldS ?_ | refine Eng.ws_app rfl ?_ | refine Eng.ws_brk ?_ | refine Eng.ws_cont ?_ | refine Eng.wv_of ?_ | refine Eng.wn_of ?_ | refine Eng.wt_of ?_ | refine Eng.we_var rfl ?_ | refine Eng.lk_of rfl ?_ | refine Eng.we_lit ?_ | refine Eng.fzw_v ?_ | refine Eng.fzw_val rfl ?_ | refine Eng.fzw_o ?_ | (apply Eng.fzw_own rfl; · (repeat (first | exact Eng.set_z | apply Eng.set_s))) | refine Eng.wf_cons ?_ | refine Eng.wf_nil ?_ | refine Eng.wa_cons ?_ | refine Eng.wa_nil ?_ | refine Eng.we_tup ?_ | refine Eng.we_ix ?_ | refine Eng.we_bin ?_ | refine Eng.we_cmp ?_ | refine Eng.we_fld ?_ | refine Eng.we_call ?_ | refine Eng.we_meth ?_ | refine Eng.we_blt ?_ | refine Eng.we_lst ?_ | refine Eng.we_ife ?_ | refine Eng.we_and2 ?_ | refine Eng.we_or2 ?_ | refine Eng.we_not ?_ | refine Eng.we_neg ?_ | refine Eng.we_isB ?_ | refine Eng.we_isC ?_ | refine Eng.we_chn ?_ | refine Eng.we_slc ?_ | refine Eng.we_dget1 ?_ | refine Eng.we_dget2 ?_ | refine Eng.isd_of rfl ?_ | refine Eng.we_dsp ?_ | refine Eng.wd_cons ?_ | refine Eng.wd_nil ?_ | refine Eng.wo_no ?_ | refine Eng.wo_so ?_ | refine Eng.wts_nil ?_ | refine Eng.wts_one ?_ | refine Eng.wi_seq ?_ | refine Eng.wi_rng1 ?_ | refine Eng.wi_rng2 ?_ | refine Eng.wi_enum ?_ | refine Eng.wi_zip ?_ | refine Eng.bo_addI ?_ | refine Eng.bo_subI ?_ | refine Eng.cm_ltI ?_ | refine Eng.cm_leI ?_ | refine Eng.cm_gtI ?_ | refine Eng.cm_geI ?_ | refine Eng.cm_eqI ?_ | refine Eng.cm_neI ?_ | refine Eng.cm_eqS ?_ | refine Eng.cm_neS ?_ | refine Eng.cm_isN ?_ | refine Eng.cm_isnotN ?_ | refine Eng.cm_inD rfl ?_ | refine Eng.cm_ninD rfl ?_ | refine Eng.cm_inTS ?_ | refine Eng.cm_inLS ?_ | refine Eng.cm_ninTS ?_ | refine Eng.cm_ninLS ?_ | refine Eng.ix_t0 ?_ | refine Eng.ix_t1 ?_ | refine Eng.ix_t2 ?_ | refine Eng.ix_t3 ?_ | refine Eng.ix_t4 ?_ | refine Eng.ix_l0 ?_ | refine Eng.ix_l1 ?_ | refine Eng.ix_l2 ?_ | refine Eng.ix_T (by with_reducible assumption) ?_ | refine Eng.ix_L (by with_reducible assumption) ?_ | refine Eng.in_of ?_ | refine Eng.tupn_of rfl ?_ | refine Eng.hd_of ?_ | refine Eng.dct_of ?_ | refine Eng.bo_mulI (by first | exact Eng.small_l (by first | decide | with_reducible assumption) | exact Eng.small_r (by first | decide | with_reducible assumption) | exact Eng.small_r (Eng.small_of' (by omega) (by omega)) | exact Eng.small_l (Eng.small_of' (by omega) (by omega))) ?_ | refine Eng.bo_fdiv (by first | decide | with_reducible assumption | exact Eng.nat31_of (by omega) (by omega)) ?_ | refine Eng.bo_mod (by first | decide | omega) ?_ | refine Eng.bo_addT (by first | with_reducible assumption | decide) ?_ | refine Eng.bo_addL (by first | with_reducible assumption | decide) ?_ | refine Eng.bo_addS (by first | with_reducible assumption | decide) ?_ | refine Eng.bo_of (by with_reducible assumption) ?_ | refine Eng.cm_of (by with_reducible assumption) ?_ | refine Eng.ix_of (by with_reducible assumption) ?_ | refine Eng.sl_of (by with_reducible assumption) ?_ | refine Eng.bl_of (by with_reducible assumption) ?_ | refine Eng.bl_divmod (by first | decide | with_reducible assumption | exact Eng.nat31_of (by omega) (by omega)) ?_ | refine Eng.fd_of (by with_reducible assumption) ?_ | refine Eng.me_of (by with_reducible assumption) ?_ | refine Eng.call_plain rfl rfl ?_ | refine Eng.call_well rfl (fun _ => rfl) ?_ | refine Eng.set_l0 ?_ | refine Eng.set_l1 ?_ | refine Eng.set_l2 ?_ | (apply Eng.stw_v; · (repeat (first | exact Eng.put_z rfl | exact Eng.put_z (by with_reducible assumption) | apply Eng.put_s))) | (apply Eng.stw_o; · (repeat (first | exact Eng.put_z rfl | exact Eng.put_z (by with_reducible assumption) | apply Eng.put_s))) | (apply Eng.stw_val rfl; · (repeat (first | exact Eng.put_z rfl | exact Eng.put_z (by with_reducible assumption) | apply Eng.put_s))) | (apply Eng.stw_own rfl; · (repeat (first | exact Eng.set_z | apply Eng.set_s)); · (repeat (first | exact Eng.put_z rfl | exact Eng.put_z (by with_reducible assumption) | apply Eng.put_s))) | refine Eng.stws_nil ?_ | (apply Eng.stws_cons; · (repeat (first | exact Eng.put_z rfl | exact Eng.put_z (by with_reducible assumption) | apply Eng.put_s))) | refine Eng.tgw_nil ?_ | (apply Eng.tgw_nm; · (repeat (first | exact Eng.put_z rfl | exact Eng.put_z (by with_reducible assumption) | apply Eng.put_s))) | refine Eng.tgw_sub ?_ | (apply Eng.wrw_own rfl; · (repeat (first | exact Eng.set_z | apply Eng.set_s))) | (apply Eng.wrw_lent rfl; · (repeat (first | exact Eng.set_z | apply Eng.set_s))) | refine Eng.mvw_v ?_ | refine Eng.mvw_o ?_ | refine Eng.mvw_val rfl ?_ | (apply Eng.mvw_own rfl; · (repeat (first | exact Eng.set_z | apply Eng.set_s))))
local macro_rules | `(tactic| array_mem_dec) => `(tactic| first | refine Eng.fd_of rfl ?_ | refine Eng.me_of rfl ?_ | refine Eng.wc_of (by with_reducible assumption) ?_ | refine Eng.sm_of rfl ?_ | refine Eng.sm_of (by with_reducible assumption) ?_ | refine Eng.tr_of rfl ?_ | refine Eng.tr_of (by with_reducible assumption) ?_ | refine Eng.bl_of rfl ?_ | refine Eng.sl_of rfl ?_ | refine Eng.bo_of rfl ?_ | refine Eng.cm_of rfl ?_ | refine Eng.ix_of rfl ?_ | refine Eng.outs_of rfl ?_ | refine Eng.ifb_t (by first | rfl | with_reducible assumption | (simp only [Bool.not_eq_true']; with_reducible assumption) | (simp only [decide_eq_true_eq, beq_iff_eq, Bool.not_eq_true', bne_iff_ne, decide_eq_false_iff_not, beq_eq_false_iff_ne, ne_eq]; omega) | decide) ?_ | refine Eng.ifb_f (by first | rfl | with_reducible assumption | (simp only [Bool.not_eq_false']; with_reducible assumption) | (simp only [decide_eq_false_iff_not, beq_eq_false_iff_ne, Bool.not_eq_false', ne_eq, beq_iff_eq, decide_eq_true_eq]; omega) | decide) ?_ | exact ⟨rfl, rfl⟩ | exact rfl | (refine Eng.ifb_s (fun hc => ?_) (fun hc => ?_) <;> (try simp only [decide_eq_true_eq, decide_eq_false_iff_not, beq_iff_eq, beq_eq_false_iff_ne, ne_eq, Bool.not_eq_true', Bool.not_eq_false', Int.not_lt, Int.not_le] at hc)))
namespace Law
open Eng PySem
theorem s_round (k : Nat) (w0 w1 w2 : Int) {Q : RV → List Val → Prop} (q : ∀ a b c, Q (.v (.bl true)) [wl a b c]) : WC (Fk D (k+13) i__law_round) [.lent (wl w0 w1 w2)] Q := by
  refine wc_fn (F__law_round _ _) rfl (by simp only [startE, slotOf, List.map, List.length, List.replicate, List.cons_append, List.nil_append, List.length_cons, List.length_nil, Nat.reduceAdd, Nat.reduceSub]; rfl) ?_; show WB D _ B__law_round _ _ _ _ _; unfold B__law_round
  refine wb_cut (fun ε => ∃ a b c s1 s2 s3 s4 s5 s6 s7, ε = [.lent (wl a b c), s1, s2, s3, s4, s5, s6, s7]) ?_ ?_
  · (repeat' (first | array_get_dec | array_mem_dec))
    refine ws_forF (fun _ ε => ∃ a b c s1 s2 s3 s4 s5 s6 s7, ε = [.lent (wl a b c), s1, s2, s3, s4, s5, s6, s7] ∧ free s1 = true ∧ free s2 = true ∧ free s3 = true ∧ free s4 = true ∧ free s5 = true ∧ free s6 = true ∧ free s7 = true) ?_
    (repeat' (first | array_get_dec | array_mem_dec))
    refine ⟨rfl, rfl, ⟨w0, w1, w2, _, _, _, _, _, _, _, rfl, rfl, rfl, rfl, rfl, rfl, rfl, rfl⟩, ?_, ?_⟩
    · rintro j x ε2 hx ⟨a, b, c, s1, s2, s3, s4, s5, s6, s7, rfl, f1, f2, f3, f4, f5, f6, f7⟩
      refine ⟨_, tg_one (by (repeat (first | exact put_z rfl | exact put_z (by with_reducible assumption) | apply put_s))), ?_⟩
      refine wb_cut (fun ε => ∃ a b c, ∃ g : RG, g.Ok ∧ ε = [.lent (wl a b c), .val x, .val (rigT g), s3, s4, s5, s6, s7]) ?_ ?_
      · (repeat' (first | array_get_dec | (refine s_rig _ _ _ _ _ (by omega) (by omega) (fun g ga gb gc hg hgl => ?_)) | array_mem_dec))
        exact ⟨_, _, _, g, hg, rfl⟩
      rintro ε1 ⟨a, b, c, g, hg, rfl⟩
      refine wb_cut2 (fun ε => ∃ a b c, ∃ cs : List CU, ∃ bk : Int, LOk g cs ∧ 1 ≤ cs.length ∧ cs.length ≤ 5 ∧ 0 ≤ bk ∧ bk ≤ 5 ∧ ε = [.lent (wl a b c), .val x, .val (rigT g), .val (clV g cs), .val (.tup (cs.map CU.v)), .val (.int bk), s6, s7]) ?_ ?_
      · (repeat' (first | array_get_dec | (refine s_take _ _ _ _ _ (by omega) (by omega) (fun r wa wb wc hr0 hr1 => ?_)) | array_mem_dec))
        obtain ⟨m, hm⟩ : ∃ m : Nat, 1 + r = (m : Int) := ⟨(1 + r).toNat, by omega⟩
        rw [hm]
        refine s_cues _ _ _ _ _ hg m (by omega) (fun cs ca cb cc hcs hlen => ?_)
        have hl := e_law_list (k+2) g cs hg hcs
        (repeat' (first | array_get_dec | (refine s_take _ _ _ _ _ (by omega) (by omega) (fun r wa wb wc hr0 hr1 => ?_)) | (refine s_pickI _ _ _ _ [0, 5, 1, r] (by simp) (by simp) (fun y pa pb pc hy => ?_)) | array_mem_dec))
        have hy : 0 ≤ y ∧ y ≤ 5 := by
          simp at hy
          omega
        exact ⟨_, _, _, cs, y, hcs, by omega, by omega, hy.1, hy.2, rfl⟩
      rintro ε1 ⟨a, b, c, cs, bk, hc, l1, l5, h0, h5, rfl⟩
      have hml : (cs.map CU.v).length = cs.length := List.length_map ..
      have hb := e_backs (k+3) g cs bk hg hc h0 h5 l1 l5
      refine wb_cut (fun ε => ∃ a b c s6 s7, free s6 = true ∧ free s7 = true ∧ ε = [.lent (wl a b c), .val x, .val (rigT g), .val (clV g cs), .val (.tup (cs.map CU.v)), .val (.int bk), s6, s7]) ?_ ?_
      · refine ws_forF (fun _ ε => ∃ a b c s6 s7, free s6 = true ∧ free s7 = true ∧ ε = [.lent (wl a b c), .val x, .val (rigT g), .val (clV g cs), .val (.tup (cs.map CU.v)), .val (.int bk), s6, s7]) ?_
        (repeat' (first | array_get_dec | (refine s_take _ _ _ _ _ (by omega) (by omega) (fun r wa wb wc hr0 hr1 => ?_)) | array_mem_dec))
        rename_i r1 _ _ _ hp0 hp1
        refine ⟨rfl, ⟨_, _, _, _, _, f6, f7, rfl⟩, ?_, ?_⟩
        · rintro i y ε2 hy ⟨a, b, c, s6, s7, f6, f7, rfl⟩
          have hy := List.mem_of_getElem? hy
          have hy : ∃ n m : Nat, n ≤ 6 ∧ m ≤ 6 ∧ y = .tup [.int (n : Int), .int (m : Int)] := by
            simp only [List.mem_cons, List.not_mem_nil, or_false] at hy
            rw [hml] at hy
            rcases hy with rfl | rfl | rfl | rfl
            · exact ⟨cs.length, 1, by omega, by omega, rfl⟩
            · obtain ⟨n, rfl⟩ := Int.eq_ofNat_of_zero_le hp0
              obtain ⟨m, rfl⟩ := Int.eq_ofNat_of_zero_le hr0
              exact ⟨n, m, by omega, by omega, rfl⟩
            · exact ⟨cs.length + 1, cs.length + 1, by omega, by omega, by push_cast; rfl⟩
            · exact ⟨1, 2, by omega, by omega, rfl⟩
          obtain ⟨n, m, hn, hm, rfl⟩ := hy
          have hb' := hb n m hn hm
          refine ⟨_, tg_two (by (repeat (first | exact put_z rfl | exact put_z (by with_reducible assumption) | apply put_s))) (by (repeat (first | exact put_z rfl | exact put_z (by with_reducible assumption) | apply put_s))), ?_⟩
          (repeat' (first | array_get_dec | array_mem_dec))
          exact ⟨_, _, _, _, _, rfl, rfl, rfl⟩
        · rintro ε2 ⟨a, b, c, s6, s7, f6, f7, rfl⟩
          exact ⟨_, _, _, _, _, f6, f7, rfl⟩
      rintro ε1 ⟨a, b, c, s6, s7, f6, f7, rfl⟩
      have hf := e_firstR (k+1) g cs bk hg hc h0 h5
      refine wb_cut (fun ε => ∃ a b c, ε = [.lent (wl a b c), .val x, .val (rigT g), .val (clV g cs), .val (.tup (cs.map CU.v)), .val (.int bk), s6, s7]) ?_ ?_
      · (repeat' (first | array_get_dec | (refine s_take _ _ _ _ _ (by omega) (by omega) (fun r wa wb wc hr0 hr1 => ?_)) | array_mem_dec))
        rename_i p _ _ _ hp0 hp1
        rw [hml] at hp1
        obtain ⟨p, rfl⟩ := Int.eq_ofNat_of_zero_le hp0
        obtain ⟨w, rfl⟩ := Int.eq_ofNat_of_zero_le hr0
        have ho := e_once (k+1) g cs bk hg hc h0 h5 p w (by omega) (by omega)
        (repeat' (first | array_get_dec | array_mem_dec))
        exact ⟨_, _, _, rfl⟩
      rintro ε1 ⟨a, b, c, rfl⟩
      (repeat' (first | array_get_dec | array_mem_dec))
      exact ⟨_, _, _, _, _, _, _, _, _, _, rfl, rfl, rfl, rfl, rfl, rfl, f6, f7⟩
    · rintro ε2 ⟨a, b, c, s1, s2, s3, s4, s5, s6, s7, rfl, f1, f2, f3, f4, f5, f6, f7⟩
      (repeat' (first | array_get_dec | array_mem_dec))
      exact ⟨_, _, _, _, _, _, _, _, _, _, rfl⟩
  rintro ε1 ⟨a, b, c, s1, s2, s3, s4, s5, s6, s7, rfl⟩
  (repeat' (first | array_get_dec | (refine s_aged _ _ _ _ (fun fa fb fc => ?_)) | array_mem_dec))
  exact q _ _ _
theorem e_law (k : Nat) (ns : List Int) (h : ns.length ≤ 63) : ∃ ds, Fk D (k+14) i_law [.val (.scr ns)] = some (.v (.bl true), ds) := by
  have key : WC (Fk D (k+14) i_law) [.val (.scr ns)] (fun r _ => r = .v (.bl true)) := by
    refine wc_fn (F_law _ _) rfl (by simp only [startE, slotOf, List.map, List.length, List.replicate, List.cons_append, List.nil_append, List.length_cons, List.length_nil, Nat.reduceAdd, Nat.reduceSub]; rfl) ?_; show WB D _ B_law _ _ _ _ _; unfold B_law
    have hr : ∃ n : Nat, (n = 2 ∨ n = 3) ∧ max 2 (min (ns.length : Int) 3) = (n : Int) := by
      by_cases h3 : 3 ≤ ns.length
      · exact ⟨3, .inr rfl, by omega⟩
      · exact ⟨2, .inl rfl, by omega⟩
    obtain ⟨n, hn, hmx⟩ := hr
    (repeat' (first | array_get_dec | array_mem_dec))
    refine we_lcD (List.range n) (fun i => .int (i : Int)) (fun _ => true) (fun _ => .bl true) ?_
    (repeat' (first | array_get_dec | array_mem_dec))
    rw [hmx]
    refine ⟨inR_of (by omega) (by omega), range_map _, cap_of (by simp; omega), ⟨_, rfl, fun i hi => ?_⟩, ?_⟩
    · have hi := List.mem_range.mp hi
      refine ⟨_, tg_one (by (repeat (first | exact put_z rfl | exact put_z (by with_reducible assumption) | apply put_s))), ?_⟩
      (repeat' (first | array_get_dec | array_mem_dec))
      refine ⟨rfl, ?_⟩
      (repeat' (first | array_get_dec | (refine s_well _ ns (i : Int) (by omega) (by omega) h (fun a b c => ?_)) | (refine s_round _ _ _ _ (fun a b c => ?_)) | array_mem_dec))
    · (repeat' (first | array_get_dec | (refine bl_of (r := .v (.bl true)) (by rcases hn with rfl | rfl <;> rfl) ?_) | array_mem_dec))
  unfold WC at key
  obtain ⟨r, ds, e, rfl⟩ := key
  exact ⟨ds, e⟩
theorem law_true (ns : List Int) (h : ns.length ≤ 63) : ∃ ds, Fk D (20 + 1) 0 [.val (.scr ns)] = some (.v (.bl true), ds) := e_law 7 ns h
end Law
end
section
set_option Elab.async false
set_option linter.all false
set_option maxRecDepth 100000
set_option maxHeartbeats 0
open PySem PySem.W PySem.Calls PyProof.Rows
theorem PySem.Challenge.cw_stagecue_k22_back_at_all_edges_holds : PySem.Challenge.rw_stagecue_k22_back_at_all_edges.Holds := by
  w_on; o_law
  refine HandSHeadRun.head_any (r := OpenLaw.row PySem.Challenge.rw_stagecue_k22_back_at_all_edges) (q := view (OpenLaw.row PySem.Challenge.rw_stagecue_k22_back_at_all_edges).prog [93]) (H := LawH.hk) (ob := LawH.ob) (M := 20000) (loose := LawH.loose) (d := HandSHeadRun.topDef (OpenLaw.row PySem.Challenge.rw_stagecue_k22_back_at_all_edges).prog 93) (kwd := []) LawH.ob_eq
    (by kernel_rfl) (fun s => by kernel_rfl) LawH.run (by kernel_rfl) (by kernel_rfl) (by kernel_rfl) (by rfl) (by first | assumption | decide +kernel) (by decide +kernel) ⟨rfl, rfl, rfl, rfl, rfl, by decide +kernel⟩ ?hw ?hc
  case hw => w_witness2
  case hc =>
    exact Eng.walk_E (l := PySem.Challenge.rw_stagecue_k22_back_at_all_edges) (n := 63) (k := 20) (li := 0) (nn := 4) (sp := Law.sp) (fn := Law.fnL) rfl (by decide) (by kernel_rfl) ⟨rfl, by decide, by decide⟩ (by kernel_rfl) Law.spOk Law.ffs Law.fl (by decide +kernel) Law.law_true
end
