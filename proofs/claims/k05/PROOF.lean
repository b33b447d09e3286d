import PyProof.Rows.All
import Wide.All
import OpenK.AllK
import Wide.FinOn
import KE.RegKIsAll
import PySem.Str
import HandS.Text
import PyProof.P3Statements
import PyProof.Lay0
import PyProof.ReprReads
import HandS.ForMost
import HandS.ForExc
import HandS.FStr
import HandS.Property
import HandS.RaiseMore
import HandS.Wide
import HandS.IsInst
import HandS.TupAny
import KE.GoesNew
import KE.GoesMore
import KE.GoesEnum
import HandS.Small
import KE.KFmtOwn
import PyProof.InstNe
import HandS.Style
import HandS.Words
import HandS.WordsExc
import HandS.Ends
import HandS.EndBits
import PyProof.ReprLen
import PyProof.P3Eq
import PyProof.FitsInt
import PySem.Challenge.RW_cellturns_k05_programmes_made
set_option Elab.async false
set_option linter.all false
section
set_option linter.all false
set_option autoImplicit false
namespace MP
open PySem

/-- plain data; own n: a thing of the store that may change -/
inductive D where
  | non | bl (b : Bool) | int (i : Int) | str (s : Str)
  | tup (xs : List D) | lst (xs : List D)
  | obj (c : String) (ns : List String) (vs : List D)
  | own (n : Nat)
  | cls (c : String)
  deriving Inhabited

/-- what stands in the store -/
inductive Cell where
  | lst (xs : List D)
  | dct (kvs : List (Sum Int Str × D))
  | ins (c : String) (fs : List (String × D))
  | dead
abbrev Store := List Cell

/-- how a piece of code ends -/
inductive R (α : Type) where
  | ok (a : α) (st : Store)
  | exn (c : String) (vs : List D) (st : Store)
  | stuck
  deriving Inhabited

namespace R
variable {α β : Type}
def bd (m : R α) (f : α → Store → R β) : R β := match m with
  | .ok a st => f a st
  | .exn c vs st => .exn c vs st
  | .stuck => .stuck
@[simp] theorem bd_ok (a : α) (st : Store) (f : α → Store → R β) : bd (.ok a st) f = f a st := rfl
@[simp] theorem bd_exn (c : String) (vs : List D) (st : Store) (f : α → Store → R β) : bd (.exn c vs st) f = .exn c vs st := rfl
@[simp] theorem bd_stuck (f : α → Store → R β) : bd (.stuck) f = .stuck := rfl
end R
def opt {α : Type} (o : Option α) (st : Store) : R α := match o with
  | some a => .ok a st
  | none => .stuck
@[simp] theorem opt_some {α : Type} (a : α) (st : Store) : opt (some a) st = .ok a st := rfl
@[simp] theorem opt_none {α : Type} (st : Store) : opt (none : Option α) st = .stuck := rfl

inductive Op2 where | add | sub | mul | fdiv | mod | pow
inductive OpC where | lt | le | gt | ge | eq | ne | is_ | isnot | in_ | notin
  deriving DecidableEq
inductive Ty where | int | bool | str | tuple | list | dict | own (c : String)
inductive Prim where
  | len | sum | min | max | abs | all | any | int | bool | tuple | list | sorted | sortedR | str | repr | divmod | setlen | dictOf | range
  deriving DecidableEq
inductive Meth where
  | append | extend | pop | index | count | join | split | replace | upper | get | items | values
  deriving DecidableEq

inductive Tg where
  | var (i : Nat)
  | tup (ts : List Tg)

inductive CE where
  | var (i : Nat)
  | gc (x : String)
  | cst (d : D)
  | bin (o : Op2) (a b : CE) | neg (a : CE)
  | cmp (o : OpC) (a b : CE) | chain (o o' : OpC) (a b c : CE)
  | and (a b : CE) | or (a b : CE) | not (a : CE)
  | ite (t a b : CE)
  | tup (es : List CE) | lst (m : Bool) (es : List CE)
  | item (a i : CE) | sl (a : CE) (lo hi : Option CE)
  | prim (p : Prim) (es : List CE)
  | meth (m : Meth) (o : CE) (es : List CE)
  | call (f : String) (es : List CE)
  | new (c : String) (m : Bool) (es : List CE)
  | ometh (o : CE) (m : String) (es : List CE)
  | attr (o : CE) (f : String)
  | lc (m : Bool) (own : List Nat) (elt : CE) (tg : Tg) (it : CE) (ifs : List CE)
  | isi (a : CE) (ts : List Ty)
  | fstr (es : List CE) | fmt (a : CE)
  | frz (a : CE)
  | rng (es : List CE) | enu (es : List CE) | zip (es : List CE)
  | never | dct0
  | newK (c : String) (m : Bool) (es : List CE) (ks : List String) (pm : List Nat) (kes : List CE)
  | callK (f : String) (es : List CE) (ks : List String) (pm : List Nat) (kes : List CE)
  | oeq (ng : Bool) (a b : CE) | ostr (a : CE) | orepr (a : CE) | obool (a : CE)

inductive CS where
  | set (tg : Tg) (e : CE)
  | par (is : List Nat) (es : List CE)
  | setItem (o i e : CE) | setAttr (o : CE) (f : String) (e : CE)
  | augVar (i : Nat) (o : Op2) (e : CE)
  | expr (e : CE)
  | ret (e : CE) | retN
  | ifS (t : CE) (a b : List CS)
  | forS (tg : Tg) (it : CE) (body : List CS)
  | whileS (t : CE) (body : List CS)
  | raise (c : String) (es : List CE)
  | tryS (body : List CS) (c : String) (h : List CS)
  | pass | brk | cont | never
end MP
end

section
set_option linter.all false
set_option autoImplicit false
namespace MP
open PySem

/-- the most that a list or a text may hold -/
def LINE : Nat := 16777216
/-- the bound that both factors of a product keep -/
def BIG : Nat := 2 ^ 4000

mutual
def D.py : D → Option PyData
  | .non => some .none
  | .bl b => some (.bool b)
  | .int i => some (.int i)
  | .str s => some (.str s)
  | .tup xs => (D.pys xs).map .tuple
  | .lst xs => (D.pys xs).map .list
  | .obj _ _ _ => none
  | .own _ => none
  | .cls _ => none
def D.pys : List D → Option (List PyData)
  | [] => some []
  | x :: xs => match D.py x, D.pys xs with
    | some a, some as => some (a :: as)
    | _, _ => none
end

mutual
def D.clean (n : Nat) : D → Bool
  | .tup xs => D.cleans n xs
  | .lst xs => D.cleans n xs
  | .obj _ _ vs => D.cleans n vs
  | .own m => decide (m < n)
  | _ => true
def D.cleans (n : Nat) : List D → Bool
  | [] => true
  | x :: xs => D.clean n x && D.cleans n xs
end
def Cell.clean (n : Nat) : Cell → Bool
  | .lst xs => D.cleans n xs
  | .dct kvs => D.cleans n (kvs.map (·.2))
  | .ins _ fs => D.cleans n (fs.map (·.2))
  | .dead => true

/-- behind a call: what the callee made goes, unless it can still be reached -/
def trim (n : Nat) (d : D) (st : Store) : Store :=
  if d.clean n && (st.take n).all (Cell.clean n) then st.take n else st

def seqOf (st : Store) : D → Option (List D)
  | .tup xs => some xs
  | .lst xs => some xs
  | .own n => match st[n]? with
    | some (.lst xs) => some xs
    | _ => none
  | _ => none
def keyD : Sum Int Str → D
  | .inl i => .int i
  | .inr s => .str s
def signsOf (s : Str) : List D := s.cps.toList.map fun c => .str ⟨#[c]⟩
/-- what a loop over it meets -/
def itemsOf (st : Store) : D → Option (List D)
  | .tup xs => some xs
  | .lst xs => some xs
  | .str s => some (signsOf s)
  | .own n => match st[n]? with
    | some (.lst xs) => some xs
    | some (.dct kvs) => some (kvs.map fun p => keyD p.1)
    | _ => none
  | _ => none
def truD (st : Store) : D → Option Bool
  | .non => some false
  | .bl b => some b
  | .int i => some (i != 0)
  | .str s => if s.length ≤ LINE then some (s.length != 0) else none
  | .tup xs => some (!xs.isEmpty)
  | .lst xs => some (!xs.isEmpty)
  | .own n => match st[n]? with
    | some (.lst xs) => some (!xs.isEmpty)
    | some (.dct kvs) => some (!kvs.isEmpty)
    | _ => none
  | _ => none
/-- a thing of the store seen as data -/
def look (st : Store) (d : D) : D := match d with
  | .own n => match st[n]? with
    | some (.lst xs) => .lst xs
    | _ => d
  | _ => d
def numOf : D → Option Int
  | .int i => some i
  | _ => none
def intsOf : List D → Option (List Int)
  | [] => some []
  | .int i :: r => (intsOf r).map (i :: ·)
  | _ :: _ => none
def strsOf : List D → Option (List Str)
  | [] => some []
  | .str i :: r => (strsOf r).map (i :: ·)
  | _ :: _ => none
def boolsOf : List D → Option (List Bool)
  | [] => some []
  | .bl i :: r => (boolsOf r).map (i :: ·)
  | _ :: _ => none

def bigOk (i : Int) : Bool := decide (i.natAbs < BIG)
def binF (o : Op2) (x y : D) : Option D := match o, x, y with
  | .add, .int i, .int j => some (.int (i + j))
  | .add, .int i, .bl b => some (.int (i + if b then 1 else 0))
  | .add, .str a, .str b => if a.length + b.length ≤ LINE then some (.str (a ++ b)) else none
  | .add, .lst a, .lst b => if a.length + b.length ≤ LINE then some (.lst (a ++ b)) else none
  | .add, .tup a, .tup b => if a.length + b.length ≤ LINE then some (.tup (a ++ b)) else none
  | .sub, .int i, .int j => some (.int (i - j))
  | .mul, .int i, .int j => if bigOk i && bigOk j then some (.int (i * j)) else none
  | .fdiv, .int i, .int j => if 0 < j && bigOk j then some (.int (i / j)) else none
  | .mod, .int i, .int j => if 0 < j then some (.int (i % j)) else none
  | .pow, .int i, .int j => if 0 ≤ j && j ≤ 1000 && decide (i.natAbs < 2 ^ 64) then some (.int (i ^ j.toNat)) else none
  | _, _, _ => none

/-- op= of data -/
def augF (o : Op2) (x y : D) : Option D := match o, x, y with
  | .add, .int i, .int j => some (.int (i + j))
  | .sub, .int i, .int j => some (.int (i - j))
  | _, _, _ => none
/-- == of data -/
def eqF (x y : D) : Option Bool := match x, y with
  | .str a, .str b => some (a == b)
  | x, y => match x.py, y.py with
  | some a, some b => if a.canLay0 && b.canLay0 && decide (a.depth ≤ 64) && decide (b.depth ≤ 64) then some (PyData.eqv a b) else none
  | _, _ => none
/-- in -/
def inF (x : D) (xs : List D) : Option Bool := match x.py, D.pys xs with
  | some a, some bs => if a.canLay0 && PyData.canLayAll0 bs && decide (a.depth ≤ 64) then some (bs.any fun b => PyData.eqv b a) else none
  | _, _ => none
def keyOf : D → Option (Sum Int Str)
  | .int i => some (.inl i)
  | .str s => some (.inr s)
  | _ => none
def valD (kvs : List (Sum Int Str × D)) (k : Sum Int Str) : Option D := (kvs.find? fun kv => decide (kv.1 = k)).map (·.2)
def putD (kvs : List (Sum Int Str × D)) (k : Sum Int Str) (d : D) : List (Sum Int Str × D) :=
  if (kvs.any fun kv => decide (kv.1 = k)) = true then kvs.map (fun kv => if kv.1 = k then (kv.1, d) else kv) else kvs ++ [(k, d)]
def isNon : D → Bool
  | .non => true
  | _ => false
def inC (st : Store) (x y : D) : Option Bool := match y with
  | .str z => match x with
    | .str a => match a.cps.toList with
      | [c] => some (decide (c ∈ z.cps.toList))
      | _ => none
    | _ => none
  | .tup xs => inF x xs
  | .lst xs => inF x xs
  | .own n => match st[n]? with
    | some (.dct kvs) => (keyOf x).map fun k => (valD kvs k).isSome
    | some (.lst xs) => inF x xs
    | _ => none
  | _ => none
def cmpF (st : Store) (o : OpC) (x y : D) : Option Bool := match o with
  | .lt => match x, y with
    | .int i, .int j => some (decide (i < j))
    | _, _ => none
  | .le => match x, y with
    | .int i, .int j => some (decide (i ≤ j))
    | _, _ => none
  | .gt => match x, y with
    | .int i, .int j => some (decide (j < i))
    | _, _ => none
  | .ge => match x, y with
    | .int i, .int j => some (decide (j ≤ i))
    | _, _ => none
  | .eq => eqF (look st x) (look st y)
  | .ne => (eqF (look st x) (look st y)).map not
  | .is_ => match y with
    | .non => some (isNon x)
    | _ => none
  | .isnot => match y with
    | .non => some (!isNon x)
    | _ => none
  | .in_ => inC st x y
  | .notin => (inC st x y).map not

def ixF (n : Nat) (i : Int) : Option Nat := if 0 ≤ i then (if i < n then some i.toNat else none) else if -(n : Int) ≤ i then some (i + n).toNat else none
def atF {α : Type} (xs : List α) (i : Int) : Option α := (ixF xs.length i).bind fun j => xs[j]?
def itemF (st : Store) (a i : D) : Option D := match a, i with
  | .str s, .int k => if s.length ≤ LINE then (atF s.cps.toList k).map fun c => .str ⟨#[c]⟩ else none
  | .tup xs, .int k => atF xs k
  | .lst xs, .int k => atF xs k
  | .own n, i => match st[n]? with
    | some (.lst xs) => match i with
      | .int k => atF xs k
      | _ => none
    | some (.dct kvs) => (keyOf i).bind (valD kvs)
    | _ => none
  | _, _ => none
def sixF (n d : Nat) : Option Int → Nat
  | none => d
  | some v => if v < 0 then (v + (n : Int)).toNat else min v.toNat n
def cutF {α : Type} (xs : List α) (lo hi : Option Int) : List α := (xs.drop (sixF xs.length 0 lo)).take (sixF xs.length xs.length hi - sixF xs.length 0 lo)
def slF (st : Store) (a : D) (lo hi : Option Int) : Option D := match a with
  | .tup xs => some (.tup (cutF xs lo hi))
  | .lst xs => some (.lst (cutF xs lo hi))
  | .own n => match st[n]? with
    | some (.lst xs) => some (.lst (cutF xs lo hi))
    | _ => none
  | .str s => if s.length ≤ LINE then some (.str ⟨(cutF s.cps.toList lo hi).toArray⟩) else none
  | _ => none

def maxL (a : Int) (l : List Int) : Int := l.foldl (fun x y => if y > x then y else x) a
def minL (a : Int) (l : List Int) : Int := l.foldl (fun x y => if y < x then y else x) a
def isSeqP : PyData → Bool
  | .list _ => true
  | .tuple _ => true
  | _ => false
def shown (d : D) : Option Str := match d.py with
  | some p => if isSeqP p && p.showable && !p.hasDict && decide (p.depth ≤ 64) && decide (p.shown.length ≤ LINE) then some p.shown else none
  | none => none
def listOf (st : Store) : D → Option (List D)
  | .lst xs => some xs
  | .own n => match st[n]? with
    | some (.lst xs) => some xs
    | _ => none
  | _ => none
def primF (p : Prim) (vs : List D) (st : Store) : Option D := match p, vs with
  | .len, [d] => match d with
    | .str s => if s.length ≤ LINE then some (.int s.length) else none
    | _ => match seqOf st d with
      | some xs => some (.int xs.length)
      | none => none
  | .sum, [d] => match listOf st d with
    | some xs => (intsOf xs).map fun l => .int l.sum
    | none => none
  | .min, [.int a, .int b] => some (.int (if b < a then b else a))
  | .max, [.int a, .int b] => some (.int (if b > a then b else a))
  | .min, [d] => match listOf st d with
    | some xs => match intsOf xs with
      | some (a :: l) => some (.int (minL a l))
      | _ => none
    | none => none
  | .max, [d] => match listOf st d with
    | some xs => match intsOf xs with
      | some (a :: l) => some (.int (maxL a l))
      | _ => none
    | none => none
  | .abs, [.int a] => some (.int (if a < 0 then -a else a))
  | .all, [d] => match listOf st d with
    | some xs => (boolsOf xs).map fun l => .bl (l.all id)
    | none => none
  | .any, [d] => match listOf st d with
    | some xs => (boolsOf xs).map fun l => .bl (l.any id)
    | none => none
  | .int, [.int a] => some (.int a)
  | .int, [.str s] => if s.length ≤ 640 then (intText? s).map .int else none
  | .tuple, [d] => match seqOf st d with
    | some xs => some (.tup xs)
    | none => none
  | .list, [d] => match seqOf st d with
    | some xs => some (.lst xs)
    | none => none
  | .str, [.int i] => if i.natAbs.log2 < 1920 then some (.str (toString i)) else none
  | .str, [.str s] => some (.str s)
  | .repr, [d] => (shown (look st d)).map .str
  | _, _ => none

def methT : Meth → String
  | .append => "list" | .extend => "list" | .pop => "list" | .index => "list" | .count => "list"
  | .join => "str" | .split => "str" | .replace => "str" | .upper => "str" | .get => "dict" | .items => "dict" | .values => "dict"
/-- a thing of the type that the method is of -/
def recvOk (m : Meth) (x : D) (st : Store) : Bool := match x with
  | .str _ => methT m == "str"
  | .lst _ => methT m == "list"
  | .own n => match st[n]? with
    | some (.lst _) => methT m == "list"
    | some (.dct _) => methT m == "dict"
    | _ => false
  | _ => false
def methF (m : Meth) (o : D) (vs : List D) (st : Store) : R D := match m, o, vs with
  | .append, .own n, [d] => match st[n]? with
    | some (.lst xs) => if xs.length < LINE then .ok .non (st.set n (.lst (xs ++ [d]))) else .stuck
    | _ => .stuck
  | .join, .str a, [d] => match seqOf st d with
    | some xs => match strsOf xs with
      | some ys => if (ys.map (·.length)).sum + ys.length * a.length ≤ LINE then .ok (.str (Txt.join a ys)) st else .stuck
      | none => .stuck
    | none => .stuck
  | .split, .str a, [.str b] => if b.length != 0 && a.length + 2 ≤ LINE then .ok (.lst ((Txt.split a b).map .str)) st else .stuck
  | .upper, .str a, [] => if a.length ≤ 5592405 then .ok (.str (Txt.upper a)) st else .stuck
  | _, _, _ => .stuck

mutual
def bindT (st : Store) : Tg → D → List (Option D) → Option (List (Option D))
  | .var i, d, ρ => if i < ρ.length then some (ρ.set i (some d)) else none
  | .tup ts, d, ρ => match seqOf st d with
    | some xs => bindTs st ts xs ρ
    | none => none
def bindTs (st : Store) : List Tg → List D → List (Option D) → Option (List (Option D))
  | [], [], ρ => some ρ
  | t :: ts, x :: xs, ρ => match bindT st t x ρ with
    | some ρ' => bindTs st ts xs ρ'
    | none => none
  | _, _, _ => none
end

def isTy (d : D) (t : Ty) (st : Store) : Option Bool := match d with
  | .non => some false
  | .bl _ => some (match t with | .bool => true | .int => true | _ => false)
  | .int _ => some (match t with | .int => true | _ => false)
  | .str _ => some (match t with | .str => true | _ => false)
  | .tup _ => some (match t with | .tuple => true | _ => false)
  | .lst _ => some (match t with | .list => true | _ => false)
  | .obj c _ _ => some (match t with | .own c' => decide (c = c') | _ => false)
  | .own n => match st[n]? with
    | some (.lst _) => some (match t with | .list => true | _ => false)
    | some (.dct _) => some (match t with | .dict => true | _ => false)
    | some (.ins c _) => some (match t with | .own c' => decide (c = c') | _ => false)
    | _ => none
  | .cls _ => none
def anyTy (d : D) (st : Store) : List Ty → Option Bool
  | [] => some false
  | t :: ts => match isTy d t st with
    | some true => some true
    | some false => anyTy d st ts
    | none => none

/-- a class: its methods and properties by the names of their defs -/
structure ClC where
  meths : List (String × String)
  props : List (String × String)
  flds : List String
  flags : List String
abbrev Pat := Nat × List String × List Nat
structure FnC where
  np : Nat
  ns : Nat
  body : List CS
structure Prog where
  fn : String → Option FnC
  glob : List String
  cl : String → Option ClC
  gl : String → Option D
  kw : String → List Pat
  lim : Nat

def fieldOf (st : Store) (f : String) : D → Option D
  | .obj _ ns vs => (ns.zip vs).lookup f
  | .own n => match st[n]? with
    | some (.ins _ fs) => fs.lookup f
    | _ => none
  | _ => none
abbrev Calls := String → List D → Store → R D
abbrev Env := List (Option D)

/-- made fast: a list or an instance of the store that nothing changes any more -/
def freeze (d : D) (st : Store) : R D := match d with
  | .own n => match st[n]? with
    | some (.lst xs) => .ok (.lst xs) (st.set n .dead)
    | some (.ins c fs) => .ok (.obj c (fs.map (·.1)) (fs.map (·.2))) (st.set n .dead)
    | _ => .stuck
  | _ => .ok d st
mutual
def D.beq : D → D → Bool
  | .non, .non => true
  | .bl a, .bl b => a == b
  | .int a, .int b => a == b
  | .str a, .str b => a == b
  | .tup a, .tup b => D.beqs a b
  | .lst a, .lst b => D.beqs a b
  | .obj c ns vs, .obj c' ns' vs' => c == c' && ns == ns' && D.beqs vs vs'
  | .own a, .own b => a == b
  | .cls a, .cls b => a == b
  | _, _ => false
def D.beqs : List D → List D → Bool
  | [], [] => true
  | a :: as, b :: bs => D.beq a b && D.beqs as bs
  | _, _ => false
end
/-- what is walked is as it was -/
def guardOk (st : Store) : List D → Bool
  | [] => true
  | .tup [.own n, .lst ds] :: r => (match st[n]? with
    | some (.lst xs) => D.beqs xs ds
    | _ => false) && guardOk st r
  | _ => false
/-- what a loop over it meets, and what must stay so long -/
def iterOf (st : Store) (d : D) : Option (List D × List D) := match d with
  | .tup xs => some (xs, [])
  | .lst xs => some (xs, [])
  | .str s => some (signsOf s, [])
  | .own n => match st[n]? with
    | some (.lst xs) => some (xs, [.tup [.own n, .lst xs]])
    | _ => none
  | _ => none
def packI (p : List D × List D) : D := .tup [.lst p.1, .lst p.2]
/-- the elements of a comprehension, one by one -/
def compL (step : D → List D → Store → R (List D)) (gs : List D) : List D → List D → Store → R (List D)
  | [], acc, st => if guardOk st gs then .ok acc st else .stuck
  | x :: xs, acc, st => if guardOk st gs then (step x acc st).bd fun acc' st' => compL step gs xs acc' st' else .stuck

def wipeE (ρ : Env) : List Nat → Env
  | [] => ρ
  | v :: vs => (wipeE ρ vs).set v none
def newCell (c : Cell) (st : Store) : R D := .ok (.own st.length) (st ++ [c])
def mkLst (m : Bool) (xs : List D) (st : Store) : R D :=
  if xs.length ≤ LINE then (if m then newCell (.lst xs) st else .ok (.lst xs) st) else .stuck

/-- what is wanted of an expression: its value, its truth, what a loop over it meets -/
inductive Md where | v | t | i
def fin (m : Md) (r : R D) : R D := match m with
  | .v => r
  | .t => r.bd fun x st => opt ((truD st x).map .bl) st
  | .i => r.bd fun x st => opt ((iterOf st x).map packI) st
@[simp] theorem fin_v (r : R D) : fin .v r = r := rfl
def rngF : List D → Option (List D)
  | [.int j] => if -(2 ^ 62) ≤ j && j < 2 ^ 62 then some ((List.range j.toNat).map fun (k : Nat) => .int (0 + (k : Int))) else none
  | [.int i, .int j] => if -(2 ^ 62) ≤ i && i < 2 ^ 62 && -(2 ^ 62) ≤ j && j < 2 ^ 62 then some ((List.range (j - i).toNat).map fun (k : Nat) => .int (i + (k : Int))) else none
  | _ => none
def enuF (xs : List D) : List D := xs.zipIdx.map fun p => .tup [.int p.2, p.1]
def boolK (f : Bool → Store → R D) (d : D) (st : Store) : R D := match d with
  | .bl k => f k st
  | _ => .stuck
@[simp] theorem boolK_bl (f : Bool → Store → R D) (k : Bool) (st : Store) : boolK f (.bl k) st = f k st := rfl
def seqK {α : Type} (f : List D → List D → Store → R α) (d : D) (st : Store) : R α := match d with
  | .tup [.lst k, .lst gs] => f k gs st
  | _ => .stuck
@[simp] theorem seqK_pack {α : Type} (f : List D → List D → Store → R α) (p : List D × List D) (st : Store) : seqK f (packI p) st = f p.1 p.2 st := rfl
def iterSq (st : Store) (d : D) : Option (List D × List D) := match d with
  | .str _ => none
  | _ => iterOf st d
def zipK : List (List D × List D) → Option D
  | [p, q] => some (packI ((p.1.zip q.1).map fun z => .tup [z.1, z.2], p.2 ++ q.2))
  | [p, q, r] => some (packI ((p.1.zip (q.1.zip r.1)).map fun z => .tup [z.1, z.2.1, z.2.2], p.2 ++ (q.2 ++ r.2)))
  | _ => none
def enuK : List (List D × List D) → Option D
  | [p] => some (packI (enuF p.1, p.2))
  | _ => none
def newK (Φ : Calls) (f c : String) (m : Bool) (xs : List D) (st : Store) : R D :=
  (Φ f (.own st.length :: xs) (st ++ [.ins c []])).bd fun x st' => match x with
    | .non => if m then .ok (.own st.length) st' else (freeze (.own st.length) st').bd fun d st'' => .ok d (trim st.length d st'')
    | _ => .stuck
/-- the class of a thing -/
def classOf (st : Store) : D → Option String
  | .obj c _ _ => some c
  | .own n => match st[n]? with
    | some (.ins c _) => some c
    | _ => none
  | _ => none
def findM (P : Prog) (x : D) (m : String) (st : Store) : Option String := match (classOf st x).bind P.cl with
  | some k => match fieldOf st m x with
    | none => k.meths.lookup m
    | some _ => none
  | none => none
def methK (f : Option String) (g : String → R D) : R D := match f with
  | some f => g f
  | none => .stuck
@[simp] theorem methK_some (f : String) (g : String → R D) : methK (some f) g = g f := rfl
def noExn {α : Type} (r : R α) : R α := match r with
  | .exn _ _ _ => .stuck
  | r => r
@[simp] theorem noExn_ok {α : Type} (a : α) (st : Store) : noExn (.ok a st) = .ok a st := rfl
/-- keyword values by the parameters' order -/
def permW {α : Type} (pm : List Nat) (ws : List α) : List α := pm.filterMap fun i => ws[i]?
def strK (d : D) (st : Store) : R D := match d with
  | .str s => .ok (.str s) st
  | _ => .stuck
def flagOf (P : Prog) (x : D) (st : Store) (f : String) : Bool := match (classOf st x).bind P.cl with
  | some k => k.flags.contains f
  | none => false
def attrK (P : Prog) (Φ : Calls) (f : String) (x : D) (st : Store) : R D := match (classOf st x).bind P.cl with
  | some k => match k.props.lookup f with
    | some g => noExn (Φ g [x] st)
    | none => if k.flds.contains f then opt (fieldOf st f x) st else .stuck
  | none => .stuck
def lcStep (ifs : Env → Store → R D) (elt : Env → Store → R D) (tg : Tg) (ρ : Env) (x : D) (acc : List D) (st : Store) : R (List D) :=
  match bindT st tg x ρ with
  | some ρ' => noExn ((ifs ρ' st).bd fun k st => match k with
    | .bl true => (elt ρ' st).bd fun y st => if acc.length < LINE then .ok (acc ++ [y]) st else .stuck
    | .bl false => .ok acc st
    | _ => .stuck)
  | none => .stuck
def partK (f : Str → Store → R D) (acc : Str) (d : D) (st : Store) : R D := match d with
  | .str y => if (acc ++ y).length ≤ LINE then f (acc ++ y) st else .stuck
  | _ => .stuck
def clsKnown (P : Prog) (x : D) (st : Store) : Bool := match classOf st x with
  | some c => (P.cl c).isSome
  | none => true
def tyKnown (P : Prog) (y : D) (st : Store) : Bool := clsKnown P y st && (isTy y .int st).isSome
def eqM (P : Prog) (ng : Bool) (x y : D) (st : Store) : Option String := if tyKnown P y st && flagOf P x st "eq" && (!ng || flagOf P x st "ne") then findM P x "__eq__" st else none
def fmtF (d : D) : Option Str := match d with
  | .str s => if s.length ≤ LINE then some s else none
  | .int i => if i.natAbs.log2 < 1920 then some (toString i) else none
  | _ => none
def tyOk (P : Prog) : Ty → Bool
  | .own c => (P.cl c).isSome
  | _ => true
def negK (d : D) (st : Store) : R D := match d with
  | .int i => .ok (.int (-i)) st
  | _ => .stuck
def intK (d : D) : Option (Option Int) := match d with
  | .int i => some (some i)
  | _ => none

section
variable (P : Prog) (Φ : Calls)
mutual
def evalM (ρ : Env) (md : Md) : CE → Store → R D
  | .var i, st => fin md (match ρ[i]? with
    | some (some d) => .ok d st
    | _ => .stuck)
  | .gc x, st => fin md (opt (P.gl x) st)
  | .cst d, st => fin md (.ok d st)
  | .bin o a b, st => fin md ((evalM ρ .v a st).bd fun x st => (evalM ρ .v b st).bd fun y st => opt (binF o x y) st)
  | .neg a, st => fin md ((evalM ρ .v a st).bd negK)
  | .cmp o a b, st => fin md ((evalM ρ .v a st).bd fun x st => (evalM ρ .v b st).bd fun y st => opt ((cmpF st o x y).map .bl) st)
  | .chain o o' a b c, st => fin md ((evalM ρ .v a st).bd fun x st => (evalM ρ .v b st).bd fun y st => (opt (cmpF st o x y) st).bd fun k st =>
      if k then (evalM ρ .v c st).bd fun z st => opt ((cmpF st o' y z).map .bl) st else .ok (.bl false) st)
  | .and a b, st => match md with
    | .t => (evalM ρ .t a st).bd (boolK fun k st => if k then evalM ρ .t b st else .ok (.bl false) st)
    | _ => fin md ((evalM ρ .v a st).bd (boolK fun k st => if k then evalM ρ .v b st else .ok (.bl false) st))
  | .or a b, st => match md with
    | .t => (evalM ρ .t a st).bd (boolK fun k st => if k then .ok (.bl true) st else evalM ρ .t b st)
    | _ => fin md ((evalM ρ .v a st).bd (boolK fun k st => if k then .ok (.bl true) st else evalM ρ .v b st))
  | .not a, st => match md with
    | .t => (evalM ρ .t a st).bd (boolK fun k st => .ok (.bl (!k)) st)
    | _ => fin md ((evalM ρ .v a st).bd (boolK fun k st => .ok (.bl (!k)) st))
  | .ite t a b, st => fin md ((evalM ρ .t t st).bd (boolK fun k st => if k then evalM ρ .v a st else evalM ρ .v b st))
  | .tup es, st => fin md ((evalEs ρ es st).bd fun xs st => if xs.length ≤ LINE then .ok (.tup xs) st else .stuck)
  | .lst m es, st => fin md ((evalEs ρ es st).bd (mkLst m))
  | .item a i, st => fin md ((evalM ρ .v a st).bd fun x st => (evalM ρ .v i st).bd fun y st => opt (itemF st x y) st)
  | .sl a lo hi, st => fin md ((evalM ρ .v a st).bd fun x st => (evalO ρ lo st).bd fun l st => (evalO ρ hi st).bd fun h st => opt (slF st x l h) st)
  | .prim p es, st => fin md ((evalEs ρ es st).bd fun xs st => opt (primF p xs st) st)
  | .meth m o es, st => fin md ((evalM ρ .v o st).bd fun x st => if recvOk m x st then (evalEs ρ es st).bd fun xs st => methF m x xs st else .stuck)
  | .call f es, st => if P.glob.contains f then fin md ((evalEs ρ es st).bd (Φ f)) else .stuck
  | .new c m es, st => match (P.cl c).bind fun k => k.meths.lookup "__init__" with
    | some f => fin md ((evalEs ρ es st).bd (newK Φ f c m))
    | none => .stuck
  | .ometh o m es, st => fin md ((evalM ρ .v o st).bd fun x st => methK (findM P x m st) fun f => (evalEs ρ es st).bd fun xs st => Φ f (x :: xs) st)
  | .attr o f, st => fin md ((evalM ρ .v o st).bd (attrK P Φ f))
  | .lc m own elt tg it ifs, st => fin md ((evalM ρ .i it st).bd (seqK fun xs gs st =>
      (compL (lcStep (fun ρ' st => evalIfs ρ' ifs st) (fun ρ' st => evalM ρ' .v elt st) tg (wipeE ρ own)) gs xs [] st).bd (mkLst m)))
  | .isi a ts, st => if ts.all (tyOk P) then fin md ((evalM ρ .v a st).bd fun x st => if clsKnown P x st then opt ((anyTy x st ts).map .bl) st else .stuck) else .stuck
  | .fmt a, st => fin md ((evalM ρ .v a st).bd fun x st => opt ((fmtF x).map .str) st)
  | .fstr es, st => fin md (evalFs ρ es Str.empty st)
  | .frz a, st => fin md ((evalM ρ .v a st).bd freeze)
  | .rng es, st => match md with
    | .i => (evalEs ρ es st).bd fun xs st => opt ((rngF xs).map fun l => packI (l, [])) st
    | _ => .stuck
  | .never, _ => .stuck
  | .dct0, st => fin md (newCell (.dct []) st)
  | .newK c m es ks pm kes, st => match (P.cl c).bind fun k => k.meths.lookup "__init__" with
    | some f => if (P.kw f).contains (es.length + 1, ks, pm) then fin md ((evalEs ρ es st).bd fun xs st => (evalEs ρ kes st).bd fun ws st => newK Φ f c m (xs ++ permW pm ws) st) else .stuck
    | none => .stuck
  | .callK f es ks pm kes, st => if P.glob.contains f && (P.kw f).contains (es.length, ks, pm) then fin md ((evalEs ρ es st).bd fun xs st => (evalEs ρ kes st).bd fun ws st => Φ f (xs ++ permW pm ws) st) else .stuck
  | .oeq ng a b, st => fin md ((evalM ρ .v a st).bd fun x st => (evalM ρ .v b st).bd fun y st => methK (eqM P ng x y st) fun f => (noExn (Φ f [x, y] st)).bd (boolK fun k st => .ok (.bl (k != ng)) st))
  | .ostr a, st => fin md ((evalM ρ .v a st).bd fun x st => methK (findM P x "__str__" st) fun f => (noExn (Φ f [x] st)).bd strK)
  | .orepr a, st => fin md ((evalM ρ .v a st).bd fun x st => methK (findM P x "__repr__" st) fun f => (noExn (Φ f [x] st)).bd strK)
  | .obool a, st => fin md ((evalM ρ .v a st).bd fun x st => if flagOf P x st "tru" then .ok (.bl true) st else .stuck)
  | .enu es, st => match md with
    | .i => (evalEs ρ es st).bd fun xs st => opt ((xs.mapM (iterSq st)).bind enuK) st
    | _ => .stuck
  | .zip es, st => match md with
    | .i => (evalEs ρ es st).bd fun xs st => opt ((xs.mapM (iterSq st)).bind zipK) st
    | _ => .stuck
def evalEs (ρ : Env) : List CE → Store → R (List D)
  | [], st => .ok [] st
  | e :: es, st => (evalM ρ .v e st).bd fun x st => (evalEs ρ es st).bd fun xs st => .ok (x :: xs) st
def evalFs (ρ : Env) : List CE → Str → Store → R D
  | [], acc, st => .ok (.str acc) st
  | e :: es, acc, st => (evalM ρ .v e st).bd (partK (fun acc st => evalFs ρ es acc st) acc)
def evalO (ρ : Env) : Option CE → Store → R (Option Int)
  | none, st => .ok none st
  | some e, st => (evalM ρ .v e st).bd fun x st => opt (intK x) st
def evalIfs (ρ : Env) : List CE → Store → R D
  | [], st => .ok (.bl true) st
  | e :: es, st => match es with
    | [] => evalM ρ .t e st
    | _ => .stuck
end
end

/-- how a statement ends -/
inductive SR where
  | nx (ρ : Env) (st : Store)
  | rt (d : D) (st : Store)
  | bk (ρ : Env) (st : Store)
  | ct (ρ : Env) (st : Store)
  | exn (c : String) (vs : List D) (ρ : Env) (st : Store)
  | stuck
def SR.of {α : Type} (ρ : Env) (r : R α) (f : α → Store → SR) : SR := match r with
  | .ok a st => f a st
  | .exn c vs st => .exn c vs ρ st
  | .stuck => .stuck
@[simp] theorem SR.of_ok {α : Type} (ρ : Env) (a : α) (st : Store) (f : α → Store → SR) : SR.of ρ (.ok a st) f = f a st := rfl
@[simp] theorem SR.of_exn {α : Type} (ρ : Env) (c : String) (vs : List D) (st : Store) (f : α → Store → SR) : SR.of ρ (.exn c vs st) f = .exn c vs ρ st := rfl
@[simp] theorem SR.of_stuck {α : Type} (ρ : Env) (f : α → Store → SR) : SR.of ρ (.stuck : R α) f = .stuck := rfl
def SR.then (s : SR) (f : Env → Store → SR) : SR := match s with
  | .nx ρ st => f ρ st
  | s => s
@[simp] theorem SR.then_nx (ρ : Env) (st : Store) (f : Env → Store → SR) : (SR.nx ρ st).then f = f ρ st := rfl
@[simp] theorem SR.then_rt (d : D) (st : Store) (f : Env → Store → SR) : (SR.rt d st).then f = .rt d st := rfl
@[simp] theorem SR.then_bk (ρ : Env) (st : Store) (f : Env → Store → SR) : (SR.bk ρ st).then f = .bk ρ st := rfl
@[simp] theorem SR.then_ct (ρ : Env) (st : Store) (f : Env → Store → SR) : (SR.ct ρ st).then f = .ct ρ st := rfl
@[simp] theorem SR.then_exn (c : String) (vs : List D) (ρ : Env) (st : Store) (f : Env → Store → SR) : (SR.exn c vs ρ st).then f = .exn c vs ρ st := rfl
@[simp] theorem SR.then_stuck (f : Env → Store → SR) : SR.stuck.then f = .stuck := rfl
/-- behind a loop's turn -/
def SR.loop (s : SR) (f : Env → Store → SR) : SR := match s with
  | .nx ρ st => f ρ st
  | .ct ρ st => f ρ st
  | .bk ρ st => .nx ρ st
  | s => s
@[simp] theorem SR.loop_nx (ρ : Env) (st : Store) (f : Env → Store → SR) : (SR.nx ρ st).loop f = f ρ st := rfl
@[simp] theorem SR.loop_rt (d : D) (st : Store) (f : Env → Store → SR) : (SR.rt d st).loop f = .rt d st := rfl
@[simp] theorem SR.loop_bk (ρ : Env) (st : Store) (f : Env → Store → SR) : (SR.bk ρ st).loop f = .nx ρ st := rfl
@[simp] theorem SR.loop_ct (ρ : Env) (st : Store) (f : Env → Store → SR) : (SR.ct ρ st).loop f = f ρ st := rfl
@[simp] theorem SR.loop_exn (c : String) (vs : List D) (ρ : Env) (st : Store) (f : Env → Store → SR) : (SR.exn c vs ρ st).loop f = .exn c vs ρ st := rfl
@[simp] theorem SR.loop_stuck (f : Env → Store → SR) : SR.stuck.loop f = .stuck := rfl
def forL (step : D → Env → Store → SR) (gs : List D) : List D → Env → Store → SR
  | [], ρ, st => if guardOk st gs then .nx ρ st else .stuck
  | x :: xs, ρ, st => if guardOk st gs then (step x ρ st).loop fun ρ st => forL step gs xs ρ st else .stuck
def itK (d : D) (f : List D → List D → SR) : SR := match d with
  | .tup [.lst k, .lst gs] => f k gs
  | _ => .stuck
@[simp] theorem itK_pack (p : List D × List D) (f : List D → List D → SR) : itK (packI p) f = f p.1 p.2 := rfl
def whileL (t : Env → Store → R D) (body : Env → Store → SR) : Nat → Env → Store → SR
  | 0, _, _ => .stuck
  | n + 1, ρ, st => SR.of ρ (t ρ st) fun k st => match k with
    | .bl true => (body ρ st).loop fun ρ st => whileL t body n ρ st
    | .bl false => .nx ρ st
    | _ => .stuck
def storeItem (o i d : D) (st : Store) : Option Store := match o with
  | .own n => match st[n]? with
    | some (.lst xs) => match i with
      | .int k => (ixF xs.length k).map fun j => st.set n (.lst (xs.set j d))
      | _ => none
    | some (.dct kvs) => (keyOf i).bind fun k => if kvs.length < LINE then some (st.set n (.dct (putD kvs k d))) else none
    | _ => none
  | _ => none
def putFld (f : String) (d : D) : List (String × D) → List (String × D)
  | [] => [(f, d)]
  | (g, e) :: r => if g == f then (g, d) :: r else (g, e) :: putFld f d r
def storeAttr (P : Prog) (o : D) (f : String) (d : D) (st : Store) : Option Store := match o with
  | .own n => match st[n]? with
    | some (.ins c fs) => match P.cl c with
      | some k => if fs.length < 900 && k.flds.contains f then some (st.set n (.ins c (putFld f d fs))) else none
      | none => none
    | _ => none
  | _ => none
def setMany : List Nat → List D → Env → Option Env
  | [], [], ρ => some ρ
  | i :: is, d :: ds, ρ => if i < ρ.length then setMany is ds (ρ.set i (some d)) else none
  | _, _, _ => none
section
variable (P : Prog) (Φ : Calls)
mutual
def evalS : CS → Env → Store → SR
  | .set tg e, ρ, st => SR.of ρ (evalM P Φ ρ .v e st) fun d st => match bindT st tg d ρ with
    | some ρ' => .nx ρ' st
    | none => .stuck
  | .par is es, ρ, st => SR.of ρ (evalEs P Φ ρ es st) fun ds st => match setMany is ds ρ with
    | some ρ' => .nx ρ' st
    | none => .stuck
  | .setItem o i e, ρ, st => SR.of ρ (evalM P Φ ρ .v e st) fun d st => SR.of ρ (evalM P Φ ρ .v o st) fun x st => SR.of ρ (evalM P Φ ρ .v i st) fun y st => match storeItem x y d st with
    | some st => .nx ρ st
    | none => .stuck
  | .setAttr o f e, ρ, st => SR.of ρ (evalM P Φ ρ .v e st) fun d st => SR.of ρ (evalM P Φ ρ .v o st) fun x st => match storeAttr P x f d st with
    | some st => .nx ρ st
    | none => .stuck
  | .augVar i o e, ρ, st => match ρ[i]? with
    | some (some x) => SR.of ρ (evalM P Φ ρ .v e st) fun y st => match augF o x y with
      | some d => if i < ρ.length then .nx (ρ.set i (some d)) st else .stuck
      | none => .stuck
    | _ => .stuck
  | .expr e, ρ, st => SR.of ρ (evalM P Φ ρ .v e st) fun _ st => .nx ρ st
  | .ret e, ρ, st => SR.of ρ (evalM P Φ ρ .v e st) fun d st => .rt d st
  | .retN, _, st => .rt .non st
  | .ifS t a b, ρ, st => SR.of ρ (evalM P Φ ρ .t t st) fun k st => match k with
    | .bl true => evalSs a ρ st
    | .bl false => evalSs b ρ st
    | _ => .stuck
  | .forS tg it body, ρ, st => SR.of ρ (evalM P Φ ρ .i it st) fun k st => itK k fun xs gs => forL (fun x ρ st => match bindT st tg x ρ with
      | some ρ' => evalSs body ρ' st
      | none => .stuck) gs xs ρ st
  | .whileS t body, ρ, st => whileL (fun ρ st => evalM P Φ ρ .t t st) (fun ρ st => evalSs body ρ st) P.lim ρ st
  | .raise c es, ρ, st => SR.of ρ (evalEs P Φ ρ es st) fun ds st => .exn c ds ρ st
  | .tryS body c h, ρ, st => match evalSs body ρ st with
    | .exn c' vs ρ' st' => if c' = c then evalSs h ρ' st' else .exn c' vs ρ' st'
    | r => r
  | .never, _, _ => .stuck
  | .pass, ρ, st => .nx ρ st
  | .brk, ρ, st => .bk ρ st
  | .cont, ρ, st => .ct ρ st
def evalSs : List CS → Env → Store → SR
  | [], ρ, st => .nx ρ st
  | s :: ss, ρ, st => (evalS s ρ st).then fun ρ st => evalSs ss ρ st
end
end
/-- a body's end -/
def retOf (n : Nat) : SR → R D
  | .nx _ st => .ok .non (trim n .non st)
  | .rt d st => .ok d (trim n d st)
  | .exn c vs _ st => .exn c vs st
  | _ => .stuck
def startE (ns : Nat) (vs : List D) : Env := vs.map some ++ List.replicate (ns - vs.length) none
def callF (P : Prog) : Nat → Calls
  | 0, _, _, _ => .stuck
  | n + 1, f, vs, st => match P.fn f with
    | some F => if vs.length = F.np then retOf st.length (evalSs P (callF P n) F.body (startE F.ns vs) st) else .stuck
    | none => .stuck
end MP
end

section
set_option linter.all false
set_option autoImplicit false
namespace MP
open PySem L2

def nmS (x : String) : Str := Str.ofString x

section
variable (ca : String → Option Addr) (K : PySem.W.Frag) (F : Hp) (ms : List Addr)
mutual
/-- the value v, where the heap F stands fast and ms are the store's places, is the plain d -/
inductive VRel : V → D → Prop
  | non : VRel .non .non
  | bl (b : Bool) : VRel (.bl b) (.bl b)
  | int (i : Int) : VRel (.int i) (.int i)
  | str (s : Str) : VRel (.str s) (.str s)
  | tup {a : Addr} {vs : List V} {ds : List D} (h : SqT K F a vs) (r : VRels vs ds) : VRel (.ref a) (.tup ds)
  | lst {a : Addr} {vs : List V} {ds : List D} (h : SqL K F a vs) (r : VRels vs ds) : VRel (.ref a) (.lst ds)
  | obj {a C dx : Addr} {c : String} {fs : List (Str × V)} {ns : List String} {ds : List D} (hc : ca c = some C) (h : F a = some (.ins C dx fs)) (hn : fs.map (·.1) = ns.map nmS) (r : VRels (fs.map (·.2)) ds) : VRel (.ref a) (.obj c ns ds)
  | own {n : Nat} {a : Addr} (h : ms[n]? = some a) : VRel (.ref a) (.own n)
inductive VRels : List V → List D → Prop
  | nil : VRels [] []
  | cons {v : V} {d : D} {vs : List V} {ds : List D} (h : VRel v d) (r : VRels vs ds) : VRels (v :: vs) (d :: ds)
end
end

theorem Same.rd {H H' : Hp} {a : Addr} {u : HO} (e : Same H H') (h : Rd H a u) : Rd H' a u := h.elim (fun h => .inl (e _ _ h)) fun ⟨o, h⟩ => .inr ⟨o, e _ _ h⟩
theorem Same.seqL {K : PySem.W.Frag} {H H' : Hp} {a : Addr} {xs : List V} (e : Same H H') (h : SqL K H a xs) : SqL K H' a xs := h.elim (fun z => .inl (Same.rd e z)) .inr
theorem Same.seqT {K : PySem.W.Frag} {H H' : Hp} {a : Addr} {xs : List V} (e : Same H H') (h : SqT K H a xs) : SqT K H' a xs := by
  rcases h with (h | ⟨o, h⟩) | h
  · exact .inl (.inl (e _ _ h))
  · exact .inl (.inr ⟨o, e _ _ h⟩)
  · exact .inr h

section
variable {ca : String → Option Addr} {K : PySem.W.Frag} {F F' : Hp} {ms ms' : List Addr}
theorem pre_get {α : Type} {l l' : List α} (p : l <+: l') {n : Nat} {a : α} (h : l[n]? = some a) : l'[n]? = some a := by
  obtain ⟨t, rfl⟩ := p
  have hl : n < l.length := by
    rcases Nat.lt_or_ge n l.length with q | q
    · exact q
    · rw [List.getElem?_eq_none q] at h; cases h
  rw [List.getElem?_append_left hl]; exact h
mutual
theorem VRel.mono (e : Same F F') (p : ms <+: ms') : ∀ {v : V} {d : D}, VRel ca K F ms v d → VRel ca K F' ms' v d
  | _, _, .non => .non
  | _, _, .bl b => .bl b
  | _, _, .int i => .int i
  | _, _, .str s => .str s
  | _, _, .tup h r => .tup (Same.seqT e h) (VRels.mono e p r)
  | _, _, .lst h r => .lst (Same.seqL e h) (VRels.mono e p r)
  | _, _, .obj hc h hn r => .obj hc (e _ _ h) hn (VRels.mono e p r)
  | _, _, .own h => .own (pre_get p h)
theorem VRels.mono (e : Same F F') (p : ms <+: ms') : ∀ {v : List V} {d : List D}, VRels ca K F ms v d → VRels ca K F' ms' v d
  | _, _, .nil => .nil
  | _, _, .cons h r => .cons (VRel.mono e p h) (VRels.mono e p r)
end
theorem VRels.length : ∀ {v : List V} {d : List D}, VRels ca K F ms v d → v.length = d.length
  | _, _, .nil => rfl
  | _, _, .cons _ r => by rw [List.length_cons, List.length_cons, r.length]
theorem VRels.get : ∀ {vs : List V} {ds : List D} {i : Nat} {v : V}, VRels ca K F ms vs ds → vs[i]? = some v → ∃ d, ds[i]? = some d ∧ VRel ca K F ms v d
  | _, _, _, _, .nil, e => by simp at e
  | _, _, 0, _, .cons h _, e => by simp at e; subst e; exact ⟨_, rfl, h⟩
  | _, _, i + 1, v, .cons _ r, e => by
    obtain ⟨d, h1, h2⟩ := VRels.get (i := i) (v := v) r (by simpa using e)
    exact ⟨d, by simpa using h1, h2⟩
theorem VRels.getD : ∀ {vs : List V} {ds : List D} {i : Nat} {d : D}, VRels ca K F ms vs ds → ds[i]? = some d → ∃ v, vs[i]? = some v ∧ VRel ca K F ms v d
  | _, _, _, _, .nil, e => by simp at e
  | _, _, 0, _, .cons h _, e => by simp at e; subst e; exact ⟨_, rfl, h⟩
  | _, _, i + 1, v, .cons _ r, e => by
    obtain ⟨d, h1, h2⟩ := VRels.getD (i := i) (d := v) r (by simpa using e)
    exact ⟨d, by simpa using h1, h2⟩
theorem VRels.append : ∀ {vs vs' : List V} {ds ds' : List D}, VRels ca K F ms vs ds → VRels ca K F ms vs' ds' → VRels ca K F ms (vs ++ vs') (ds ++ ds')
  | _, _, _, _, .nil, r => r
  | _, _, _, _, .cons h t, r => .cons h (VRels.append t r)
theorem VRels.one {v : V} {d : D} (h : VRel ca K F ms v d) : VRels ca K F ms [v] [d] := .cons h .nil
theorem VRels.take : ∀ {vs : List V} {ds : List D} (n : Nat), VRels ca K F ms vs ds → VRels ca K F ms (vs.take n) (ds.take n)
  | _, _, 0, _ => .nil
  | _, _, _ + 1, .nil => .nil
  | _, _, n + 1, .cons h t => .cons h (VRels.take n t)
theorem VRels.drop : ∀ {vs : List V} {ds : List D} (n : Nat), VRels ca K F ms vs ds → VRels ca K F ms (vs.drop n) (ds.drop n)
  | _, _, 0, r => r
  | _, _, _ + 1, .nil => .nil
  | _, _, n + 1, .cons _ t => VRels.drop n t
theorem VRels.set {v : V} {d : D} (h : VRel ca K F ms v d) : ∀ {vs : List V} {ds : List D} (n : Nat), VRels ca K F ms vs ds → VRels ca K F ms (vs.set n v) (ds.set n d)
  | _, _, _, .nil => .nil
  | _, _, 0, .cons _ t => .cons h t
  | _, _, n + 1, .cons q t => .cons q (VRels.set h n t)
end

def Cell.isDead : Cell → Bool
  | .dead => true
  | _ => false
/-- the place of a cell that may still change -/
def liveB : List Addr → Store → Addr → Bool
  | m :: ms, c :: st, a => (m == a && !c.isDead) || liveB ms st a
  | _, _, _ => false
/-- the heap without what may change: the cells, what is being filled -/
def vw (ex : List Addr) (ms : List Addr) (st : Store) (H : Hp) : Hp := fun a => if ex.contains a || liveB ms st a then none else H a

theorem liveB_iff : ∀ {ms : List Addr} {st : Store} {a : Addr}, liveB ms st a = true ↔ ∃ (i : Nat) (c : Cell), ms[i]? = some a ∧ st[i]? = some c ∧ c.isDead = false
  | [], st, a => by simp [liveB]
  | m :: ms, [], a => by simp [liveB]
  | m :: ms, c :: st, a => by
    have ih := liveB_iff (ms := ms) (st := st) (a := a)
    constructor
    · intro h
      simp only [liveB, Bool.or_eq_true, Bool.and_eq_true, beq_iff_eq, Bool.not_eq_true'] at h
      rcases h with ⟨h1, h2⟩ | h
      · exact ⟨0, c, by simp [h1], by simp, h2⟩
      · obtain ⟨i, c', h1, h2, h3⟩ := ih.mp h
        exact ⟨i + 1, c', by simpa using h1, by simpa using h2, h3⟩
    · rintro ⟨i, c', h1, h2, h3⟩
      simp only [liveB, Bool.or_eq_true, Bool.and_eq_true, beq_iff_eq, Bool.not_eq_true']
      cases i with
      | zero => simp at h1 h2; subst h1; subst h2; exact .inl ⟨rfl, h3⟩
      | succ i => exact .inr (ih.mpr ⟨i, c', by simpa using h1, by simpa using h2, h3⟩)
theorem vw_some {ex : List Addr} {ms : List Addr} {st : Store} {H : Hp} {a : Addr} {o : HO} : vw ex ms st H a = some o ↔ a ∉ ex ∧ liveB ms st a = false ∧ H a = some o := by
  unfold vw
  by_cases h : (ex.contains a || liveB ms st a) = true
  · rw [if_pos h]
    constructor
    · intro z; cases z
    · rintro ⟨h1, h2, _⟩
      rw [h2, Bool.or_false] at h
      exact absurd (List.contains_iff_mem.mp h) h1
  · rw [if_neg h]
    have h' : (ex.contains a || liveB ms st a) = false := by simpa using h
    rw [Bool.or_eq_false_iff] at h'
    constructor
    · intro z
      exact ⟨fun q => by rw [List.contains_iff_mem.mpr q] at h'; exact absurd h'.1 (by simp), h'.2, z⟩
    · exact fun z => z.2.2
theorem vw_le {ex : List Addr} {ms : List Addr} {st : Store} {H : Hp} : Same (vw ex ms st H) H := fun a o h => (vw_some.mp h).2.2

section
variable (ca : String → Option Addr) (K : PySem.W.Frag) (F : Hp) (ms : List Addr) (H : Hp) (a : Addr)
def CRel : Cell → Prop
  | .lst ds => ∃ vs, H a = some (.lst vs) ∧ VRels ca K F ms vs ds
  | .dct ds => ∃ kvs : List (L2.Key × V), H a = some (.dK kvs) ∧ Paired (fun p q => p.1 = q.1 ∧ VRel ca K F ms p.2 q.2) kvs ds
  | .ins c fs => ∃ (C dx : Addr) (vs : List (Str × V)), ca c = some C ∧ H a = some (.ins C dx vs) ∧ vs.map (·.1) = fs.map (fun p => nmS p.1) ∧ VRels ca K F ms (vs.map (·.2)) (fs.map (·.2))
  | .dead => True
end
section
variable {ca : String → Option Addr} {K : PySem.W.Frag} {F F' : Hp} {ms ms' : List Addr} {H H' : Hp} {a : Addr}
theorem CRel.mono (e : Same F F') (p : ms <+: ms') (hH : H' a = H a) : ∀ {c : Cell}, CRel ca K F ms H a c → CRel ca K F' ms' H' a c
  | .lst _, ⟨vs, h, r⟩ => ⟨vs, hH.trans h, r.mono e p⟩
  | .dct _, ⟨kvs, h, q⟩ => ⟨kvs, hH.trans h, Paired.mapP q fun _ _ r => ⟨r.1, r.2.mono e p⟩⟩
  | .ins _ _, ⟨C, dx, vs, hc, h, q, r⟩ => ⟨C, dx, vs, hc, hH.trans h, q, r.mono e p⟩
  | .dead, _ => True.intro
end

/-- the store lies in the heap: ms its places, ex what is being filled -/
structure RS (ca : String → Option Addr) (K : PySem.W.Frag) (ex ms : List Addr) (st : Store) (H : Hp) : Prop where
  len : ms.length = st.length
  nd : ms.Nodup
  exm : ∀ a ∈ ex, a ∉ ms
  exH : ∀ a ∈ ex, H a ≠ none
  there : ∀ a ∈ ms, H a ≠ none
  cells : ∀ (i : Nat) (a : Addr) (c : Cell), ms[i]? = some a → st[i]? = some c → CRel ca K (vw ex ms st H) ms H a c

/-- one state goes on to another: what stands fast stays -/
structure Ext (ex : List Addr) (ms : List Addr) (st : Store) (H : Hp) (ms' : List Addr) (st' : Store) (H' : Hp) : Prop where
  pre : ms <+: ms'
  same : Same (vw ex ms st H) (vw ex ms' st' H')
  exs : ∀ a ∈ ex, H' a = H a
theorem Ext.refl {ex ms : List Addr} {st : Store} {H : Hp} : Ext ex ms st H ms st H := ⟨List.prefix_rfl, Same.refl _, fun _ _ => rfl⟩
theorem Ext.trans {ex ms ms' ms'' : List Addr} {st st' st'' : Store} {H H' H'' : Hp} (a : Ext ex ms st H ms' st' H') (b : Ext ex ms' st' H' ms'' st'' H'') : Ext ex ms st H ms'' st'' H'' :=
  ⟨a.pre.trans b.pre, a.same.trans b.same, fun x h => (b.exs x h).trans (a.exs x h)⟩

def SlotRel (ca : String → Option Addr) (K : PySem.W.Frag) (F : Hp) (ms : List Addr) (σ : L2.St) (ρ : MP.Env) : Prop :=
  ρ.length = σ.length ∧ ∀ (i : Nat) (d : D), ρ[i]? = some (some d) → ∃ v, σ[i]? = some (some v) ∧ VRel ca K F ms v d
theorem SlotRel.mono {ca : String → Option Addr} {K : PySem.W.Frag} {F F' : Hp} {ms ms' : List Addr} {σ : L2.St} {ρ : MP.Env} (h : SlotRel ca K F ms σ ρ) (e : Same F F') (p : ms <+: ms') : SlotRel ca K F' ms' σ ρ :=
  ⟨h.1, fun i d q => let ⟨v, h1, h2⟩ := h.2 i d q; ⟨v, h1, h2.mono e p⟩⟩
theorem SlotRel.set {ca : String → Option Addr} {K : PySem.W.Frag} {F : Hp} {ms : List Addr} {σ : L2.St} {ρ : MP.Env} (h : SlotRel ca K F ms σ ρ) {i : Nat} {v : V} {d : D} (r : VRel ca K F ms v d) : SlotRel ca K F ms (σ.set i (some v)) (ρ.set i (some d)) := by
  refine ⟨by rw [List.length_set, List.length_set]; exact h.1, fun j e q => ?_⟩
  by_cases hij : i = j
  · subst hij
    by_cases hl : i < ρ.length
    · rw [List.getElem?_set_self hl] at q
      cases q
      exact ⟨v, by rw [List.getElem?_set_self (h.1 ▸ hl)], r⟩
    · rw [List.getElem?_eq_none (by rw [List.length_set]; omega)] at q
      cases q
  · rw [List.getElem?_set_ne hij] at q ⊢
    exact h.2 j e q
theorem SlotRel.unset {ca : String → Option Addr} {K : PySem.W.Frag} {F : Hp} {ms : List Addr} {σ : L2.St} {ρ : MP.Env} (h : SlotRel ca K F ms σ ρ) {i : Nat} : SlotRel ca K F ms (σ.set i none) (ρ.set i none) := by
  refine ⟨by rw [List.length_set, List.length_set]; exact h.1, fun j e q => ?_⟩
  by_cases hij : i = j
  · subst hij
    by_cases hl : i < ρ.length
    · rw [List.getElem?_set_self hl] at q
      cases q
    · rw [List.getElem?_eq_none (by rw [List.length_set]; omega)] at q
      cases q
  · rw [List.getElem?_set_ne hij] at q ⊢
    exact h.2 j e q
theorem SlotRel.wipe {ca : String → Option Addr} {K : PySem.W.Frag} {F : Hp} {ms : List Addr} {σ : L2.St} {ρ : MP.Env} (h : SlotRel ca K F ms σ ρ) : ∀ vs : List Nat, SlotRel ca K F ms (L2.wipe σ vs) (wipeE ρ vs)
  | [] => h
  | v :: vs => (SlotRel.wipe h vs).unset

section
variable {ca : String → Option Addr} {K : PySem.W.Frag} {ex ms : List Addr} {st : Store} {H : Hp} {a p : Addr} {o : HO}
theorem RS.fresh (h : RS ca K ex ms st H) (hp : H p = none) : p ∉ ms ∧ p ∉ ex := ⟨fun z => h.there p z hp, fun z => h.exH p z hp⟩
theorem liveB_mem (h : liveB ms st a = true) : a ∈ ms := by
  obtain ⟨i, c, h1, _⟩ := liveB_iff.mp h
  exact List.mem_of_getElem? h1
/-- a new thing that stands fast -/
theorem RS.made (h : RS ca K ex ms st H) (hp : H p = none) : RS ca K ex ms st (upd H p o) ∧ Ext ex ms st H ms st (upd H p o) ∧ vw ex ms st (upd H p o) p = some o := by
  obtain ⟨n1, n2⟩ := h.fresh hp
  have ne : ∀ b, H b ≠ none → b ≠ p := fun b q z => q (z ▸ hp)
  have sm : Same (vw ex ms st H) (vw ex ms st (upd H p o)) := fun b u q => by
    obtain ⟨q1, q2, q3⟩ := vw_some.mp q
    exact vw_some.mpr ⟨q1, q2, by rw [upd_ne (ne b (by rw [q3]; simp))]; exact q3⟩
  refine ⟨⟨h.len, h.nd, h.exm, fun b hb => ?_, fun b hb => ?_, fun i b c h1 h2 => ?_⟩, ⟨List.prefix_rfl, sm, fun b hb => upd_ne (ne b (h.exH b hb))⟩, vw_some.mpr ⟨n2, ?_, upd_same⟩⟩
  · rw [upd_ne (ne b (h.exH b hb))]; exact h.exH b hb
  · rw [upd_ne (ne b (h.there b hb))]; exact h.there b hb
  · exact (h.cells i b c h1 h2).mono sm List.prefix_rfl (upd_ne (ne b (h.there b (List.mem_of_getElem? h1))))
  · cases q : liveB ms st p with
    | false => rfl
    | true => exact absurd (liveB_mem q) n1
theorem liveB_push (hl : ms.length = st.length) {c : Cell} : ∀ b, liveB (ms ++ [p]) (st ++ [c]) b = (liveB ms st b || (p == b && !c.isDead)) := by
  intro b
  induction ms generalizing st with
  | nil => cases st with
    | nil => simp [liveB]
    | cons _ _ => simp at hl
  | cons m ms ih => cases st with
    | nil => simp at hl
    | cons d st =>
      have := ih (st := st) (by simpa using hl)
      simp only [List.cons_append, liveB, this, Bool.or_assoc]
theorem get_push {α : Type} {l : List α} {x y : α} {i : Nat} (h : (l ++ [x])[i]? = some y) : l[i]? = some y ∨ (i = l.length ∧ y = x) := by
  rcases Nat.lt_or_ge i l.length with q | q
  · rw [List.getElem?_append_left q] at h; exact .inl h
  · rw [List.getElem?_append_right q] at h
    have : i - l.length = 0 := by
      rcases Nat.eq_zero_or_pos (i - l.length) with z | z
      · exact z
      · rw [List.getElem?_eq_none (by simp; omega)] at h; cases h
    rw [this] at h
    simp at h
    exact .inr ⟨by omega, h.symm⟩
/-- a new cell -/
theorem RS.push {c : Cell} (h : RS ca K ex ms st H) (hp : H p = none) (hd : c.isDead = false) (hc : CRel ca K (vw ex ms st H) ms (upd H p o) p c) :
    RS ca K ex (ms ++ [p]) (st ++ [c]) (upd H p o) ∧ Ext ex ms st H (ms ++ [p]) (st ++ [c]) (upd H p o) := by
  obtain ⟨n1, n2⟩ := h.fresh hp
  have ne : ∀ b, H b ≠ none → b ≠ p := fun b q z => q (z ▸ hp)
  have sm : Same (vw ex ms st H) (vw ex (ms ++ [p]) (st ++ [c]) (upd H p o)) := fun b u q => by
    obtain ⟨q1, q2, q3⟩ := vw_some.mp q
    have nb := ne b (by rw [q3]; simp)
    refine vw_some.mpr ⟨q1, ?_, by rw [upd_ne nb]; exact q3⟩
    rw [liveB_push h.len, q2, beq_eq_false_iff_ne.mpr (Ne.symm nb)]; rfl
  have pr : ms <+: ms ++ [p] := List.prefix_append _ _
  refine ⟨⟨?_, ?_, fun b hb hm => ?_, fun b hb => ?_, fun b hb => ?_, fun i b d h1 h2 => ?_⟩, ⟨pr, sm, fun b hb => upd_ne (ne b (h.exH b hb))⟩⟩
  · rw [List.length_append, List.length_append, h.len]; rfl
  · rw [List.nodup_append]
    refine ⟨h.nd, by simp, fun x hx y hy z => ?_⟩
    have : y = p := by simpa using hy
    subst this; subst z; exact n1 hx
  · rcases List.mem_append.mp hm with q | q
    · exact h.exm b hb q
    · have : b = p := by simpa using q
      subst this; exact n2 hb
  · rw [upd_ne (ne b (h.exH b hb))]; exact h.exH b hb
  · rcases List.mem_append.mp hb with q | q
    · rw [upd_ne (ne b (h.there b q))]; exact h.there b q
    · have : b = p := by simpa using q
      subst this; rw [upd_same]; simp
  · rcases get_push h1 with q | ⟨q, z⟩
    · rcases get_push h2 with q2 | ⟨q2, _⟩
      · exact (h.cells i b d q q2).mono sm pr (upd_ne (ne b (h.there b (List.mem_of_getElem? q))))
      · exfalso
        rw [q2, ← h.len, List.getElem?_eq_none (Nat.le_refl _)] at q
        cases q
    · subst z
      rcases get_push h2 with q2 | ⟨_, z⟩
      · exfalso
        rw [q, h.len, List.getElem?_eq_none (Nat.le_refl _)] at q2
        cases q2
      · subst z
        exact hc.mono sm pr rfl
theorem liveB_set {n : Nat} {c d : Cell} (h1 : st[n]? = some c) (hd : c.isDead = d.isDead) : ∀ b, liveB ms (st.set n d) b = liveB ms st b := by
  intro b
  induction ms generalizing st n with
  | nil => simp [liveB]
  | cons m ms ih => cases st with
    | nil => rfl
    | cons e st => cases n with
      | zero => simp at h1; subst h1; simp [liveB, hd]
      | succ n => simp only [List.set_cons_succ, liveB]; rw [ih (by simpa using h1)]
theorem nodup_get {α : Type} : ∀ {l : List α} (nd : l.Nodup) {i j : Nat} {a : α}, l[i]? = some a → l[j]? = some a → i = j
  | [], _, _, _, _, h, _ => by simp at h
  | x :: l, nd, 0, 0, _, _, _ => rfl
  | x :: l, nd, 0, j + 1, _, h1, h2 => by
    simp at h1 h2; subst h1
    exact absurd (List.mem_of_getElem? h2) (List.nodup_cons.mp nd).1
  | x :: l, nd, i + 1, 0, _, h1, h2 => by
    simp at h1 h2; subst h2
    exact absurd (List.mem_of_getElem? h1) (List.nodup_cons.mp nd).1
  | x :: l, nd, i + 1, j + 1, _, h1, h2 => by
    have e : i = j := nodup_get (List.nodup_cons.mp nd).2 (by simpa using h1) (by simpa using h2)
    rw [e]
/-- a cell is changed -/
theorem RS.write {n : Nat} {c d : Cell} (h : RS ca K ex ms st H) (ha : ms[n]? = some a) (hs : st[n]? = some c) (hc : c.isDead = false) (hd : d.isDead = false) (hr : CRel ca K (vw ex ms st H) ms (upd H a o) a d) :
    RS ca K ex ms (st.set n d) (upd H a o) ∧ Ext ex ms st H ms (st.set n d) (upd H a o) := by
  have hm : a ∈ ms := List.mem_of_getElem? ha
  have lv := liveB_set (ms := ms) hs (hc.trans hd.symm)
  have hla : liveB ms st a = true := liveB_iff.mpr ⟨n, c, ha, hs, hc⟩
  have sm : Same (vw ex ms st H) (vw ex ms (st.set n d) (upd H a o)) := fun b u q => by
    obtain ⟨q1, q2, q3⟩ := vw_some.mp q
    have nb : b ≠ a := fun z => by subst z; rw [hla] at q2; cases q2
    exact vw_some.mpr ⟨q1, by rw [lv]; exact q2, by rw [upd_ne nb]; exact q3⟩
  refine ⟨⟨by rw [List.length_set]; exact h.len, h.nd, h.exm, fun b hb => ?_, fun b hb => ?_, fun i b e h1 h2 => ?_⟩, ⟨List.prefix_rfl, sm, fun b hb => upd_ne fun z => h.exm b hb (by rw [z]; exact hm)⟩⟩
  · rw [upd_ne fun z => h.exm b hb (by rw [z]; exact hm)]; exact h.exH b hb
  · by_cases z : b = a
    · subst z; rw [upd_same]; simp
    · rw [upd_ne z]; exact h.there b hb
  · by_cases hi : n = i
    · subst hi
      have hl : n < st.length := by
        rcases Nat.lt_or_ge n st.length with q | q
        · exact q
        · rw [List.getElem?_eq_none q] at hs; cases hs
      rw [List.getElem?_set_self hl] at h2
      cases h2
      rw [ha] at h1
      cases h1
      exact hr.mono sm List.prefix_rfl rfl
    · rw [List.getElem?_set_ne hi] at h2
      refine (h.cells i b e h1 h2).mono sm List.prefix_rfl (upd_ne fun z => hi ?_)
      subst z
      exact nodup_get h.nd ha h1
/-- a cell is made fast -/
theorem RS.kill {n : Nat} (h : RS ca K ex ms st H) (ha : ms[n]? = some a) : RS ca K ex ms (st.set n .dead) H ∧ Ext ex ms st H ms (st.set n .dead) H := by
  have lv : ∀ b, liveB ms (st.set n .dead) b = true → liveB ms st b = true := fun b q => by
    obtain ⟨i, c, h1, h2, h3⟩ := liveB_iff.mp q
    by_cases hi : n = i
    · subst hi
      have hl : n < st.length := by
        rcases Nat.lt_or_ge n st.length with q | q
        · exact q
        · rw [List.getElem?_eq_none (by rw [List.length_set]; exact q)] at h2; cases h2
      rw [List.getElem?_set_self hl] at h2
      cases h2
      cases h3
    · rw [List.getElem?_set_ne hi] at h2
      exact liveB_iff.mpr ⟨i, c, h1, h2, h3⟩
  have sm : Same (vw ex ms st H) (vw ex ms (st.set n .dead) H) := fun b u q => by
    obtain ⟨q1, q2, q3⟩ := vw_some.mp q
    refine vw_some.mpr ⟨q1, ?_, q3⟩
    cases z : liveB ms (st.set n .dead) b with
    | false => rfl
    | true => rw [lv b z] at q2; cases q2
  refine ⟨⟨by rw [List.length_set]; exact h.len, h.nd, h.exm, h.exH, h.there, fun i b e h1 h2 => ?_⟩, ⟨List.prefix_rfl, sm, fun _ _ => rfl⟩⟩
  by_cases hi : n = i
  · subst hi
    have hl : n < st.length := by
      rcases Nat.lt_or_ge n st.length with q | q
      · exact q
      · rw [List.getElem?_eq_none (by rw [List.length_set]; exact q)] at h2; cases h2
    rw [List.getElem?_set_self hl] at h2
    cases h2
    exact True.intro
  · rw [List.getElem?_set_ne hi] at h2
    exact (h.cells i b e h1 h2).mono sm List.prefix_rfl rfl
end
end MP
end

section
set_option linter.all false
set_option autoImplicit false
set_option maxHeartbeats 1000000
namespace MP
open PySem L2

section
variable (ca : String → Option Addr) (K : PySem.W.Frag)
/-- an exception of the program -/
def XRel (F : Hp) (ms : List Addr) (cls : Value) (dd : Option Addr) (c : String) (vs : List D) : Prop :=
  ∃ C, ca c = some C ∧ cls = .ref C ∧ (vs = [] ∨ ∃ (dx : Addr) (fs : List (Str × V)), dd = some dx ∧ F dx = some (.xd fs) ∧ VRels ca K F ms (fs.map (·.2)) vs)
/-- what is wanted behind code that ends so -/
def post {α β : Type} (rel : Hp → List Addr → β → α → Prop) (ex ms : List Addr) (st : Store) (H : Hp) (r : R α) (Q : β → Hp → Prop) (E : XK) : Prop :=
  match r with
  | .ok a st' => ∀ (ms' : List Addr) (H' : Hp) (b : β), RS ca K ex ms' st' H' → Ext ex ms st H ms' st' H' → rel (vw ex ms' st' H') ms' b a → Q b H'
  | .exn c vs st' => ∀ (ms' : List Addr) (H' : Hp) (cls : Value) (dd : Option Addr), RS ca K ex ms' st' H' → Ext ex ms st H ms' st' H' → XRel ca K (vw ex ms' st' H') ms' cls dd c vs → E cls dd H'
  | .stuck => False
end
section
variable {ca : String → Option Addr} {K : PySem.W.Frag} {α β γ δ : Type} {rel : Hp → List Addr → β → α → Prop} {rel2 : Hp → List Addr → δ → γ → Prop} {ex ms ms1 : List Addr} {st st1 : Store} {H H1 : Hp}
theorem post.ext {r : R α} {Q : β → Hp → Prop} {E : XK} (x : Ext ex ms st H ms1 st1 H1) (h : post ca K rel ex ms st H r Q E) : post ca K rel ex ms1 st1 H1 r Q E := by
  cases r with
  | ok a st' => exact fun ms' H' b q1 q2 q3 => h ms' H' b q1 (x.trans q2) q3
  | exn c vs st' => exact fun ms' H' cls dd q1 q2 q3 => h ms' H' cls dd q1 (x.trans q2) q3
  | stuck => exact h
theorem post.bd {r : R α} {f : α → Store → R γ} {Q : δ → Hp → Prop} {Q1 : β → Hp → Prop} {E : XK} (h : post ca K rel2 ex ms st H (r.bd f) Q E)
    (k : ∀ (a : α) (st1 : Store) (ms1 : List Addr) (H1 : Hp) (b : β), RS ca K ex ms1 st1 H1 → Ext ex ms st H ms1 st1 H1 → rel (vw ex ms1 st1 H1) ms1 b a → post ca K rel2 ex ms1 st1 H1 (f a st1) Q E → Q1 b H1) : post ca K rel ex ms st H r Q1 E := by
  cases r with
  | ok a st' => exact fun ms' H' b q1 q2 q3 => k a st' ms' H' b q1 q2 q3 (post.ext q2 h)
  | exn c vs st' => exact h
  | stuck => exact h
theorem post.opt {o : Option γ} {Q : δ → Hp → Prop} {E : XK} (h : post ca K rel2 ex ms st H (MP.opt o st) Q E) : ∃ a, o = some a ∧ post ca K rel2 ex ms st H (.ok a st) Q E := by
  cases o with
  | none => exact h.elim
  | some a => exact ⟨a, rfl, h⟩
theorem post.here {a : γ} {b : δ} {Q : δ → Hp → Prop} {E : XK} (h : post ca K rel2 ex ms st H (.ok a st) Q E) (r : RS ca K ex ms st H) (q : rel2 (vw ex ms st H) ms b a) : Q b H := h ms H b r Ext.refl q
end

theorem _root_.L2.PE.imp {X : Cx} {e : Expr} {t t' : TE} (h : PE X e t) (w : ∀ σ H Q, t' σ H Q → t σ H Q) : PE X e t' := ⟨fun pins s σ H Q I q => h.run pins s σ H Q I (w σ H Q q)⟩
theorem _root_.L2.PT.imp {X : Cx} {e : Expr} {t t' : TT} (h : PT X e t) (w : ∀ σ H Q, t' σ H Q → t σ H Q) : PT X e t' := ⟨fun pins s σ H Q I q => h.run pins s σ H Q I (w σ H Q q)⟩
theorem _root_.L2.PA.imp {X : Cx} {e : List Expr} {t t' : TA} (h : PA X e t) (w : ∀ σ H Q, t' σ H Q → t σ H Q) : PA X e t' := ⟨fun pos pins s σ H Q I q => h.run pos pins s σ H Q I (w σ H Q q)⟩
theorem _root_.L2.PS.imp {X : Cx} {e : Stmt} {t t' : TS} (h : PS X e t) (w : ∀ D σ H, t' D σ H → t D σ H) : PS X e t' := ⟨fun pins s σ H D I q => h.run pins s σ H D I (w D σ H q)⟩
theorem _root_.L2.PSs.imp {X : Cx} {e : List Stmt} {t t' : TS} (h : PSs X e t) (w : ∀ D σ H, t' D σ H → t D σ H) : PSs X e t' := ⟨fun pins s σ H D I q => h.run pins s σ H D I (w D σ H q)⟩
theorem _root_.L2.PO.imp {X : Cx} {e : Option Expr} {t t' : TO} (h : PO X e t) (w : ∀ σ H Q, t' σ H Q → t σ H Q) : PO X e t' := ⟨fun pins s σ H Q I q => h.run pins s σ H Q I (w σ H Q q)⟩
theorem _root_.L2.PI.imp {X : Cx} {tg e : Expr} {t t' : TI} (h : PI X tg e t) (w : ∀ σ H Q, t' σ H Q → t σ H Q) : PI X tg e t' := ⟨fun pins s σ H Q I q => h.run pins s σ H Q I (w σ H Q q)⟩
theorem _root_.L2.PG.imp {X : Cx} {e : Expr} {t t' : TG} (h : PG X e t) (w : ∀ v σ H Q, t' v σ H Q → t v σ H Q) : PG X e t' := ⟨fun pins s σ H v u Q I r q => h.run pins s σ H v u Q I r (w v σ H Q q)⟩
theorem _root_.L2.PGs.imp {X : Cx} {e : List Expr} {t t' : TGs} (h : PGs X e t) (w : ∀ v σ H Q, t' v σ H Q → t v σ H Q) : PGs X e t' := ⟨fun pins s σ H v u Q I r q => h.run pins s σ H v u Q I r (w v σ H Q q)⟩
theorem _root_.L2.PE.or {X : Cx} {e : Expr} {t t' : TE} (h : PE X e t) (h' : PE X e t') : PE X e (fun σ H Q => t σ H Q ∨ t' σ H Q) :=
  ⟨fun pins s σ H Q I q => q.elim (h.run pins s σ H Q I) (h'.run pins s σ H Q I)⟩
theorem _root_.L2.PE.any {X : Cx} {e : Expr} {ι : Type} {t : ι → TE} (h : ∀ i, PE X e (t i)) : PE X e (fun σ H Q => ∃ i, t i σ H Q) :=
  ⟨fun pins s σ H Q I q => let ⟨i, q⟩ := q; (h i).run pins s σ H Q I q⟩
theorem _root_.L2.PE.no {X : Cx} {e : Expr} : PE X e (fun _ _ _ => False) := ⟨fun _ _ _ _ _ _ q => q.elim⟩
theorem _root_.L2.PI.or {X : Cx} {tg e : Expr} {t t' : TI} (h : PI X tg e t) (h' : PI X tg e t') : PI X tg e (fun σ H Q => t σ H Q ∨ t' σ H Q) :=
  ⟨fun pins s σ H Q I q => q.elim (h.run pins s σ H Q I) (h'.run pins s σ H Q I)⟩
theorem _root_.L2.PG.or {X : Cx} {e : Expr} {t t' : TG} (h : PG X e t) (h' : PG X e t') : PG X e (fun v σ H Q => t v σ H Q ∨ t' v σ H Q) :=
  ⟨fun pins s σ H v u Q I r q => q.elim (h.run pins s σ H v u Q I r) (h'.run pins s σ H v u Q I r)⟩

section
variable (P : Prog) (Φ : Calls) (ca : String → Option Addr) (K : PySem.W.Frag) (W : WX)
def G (σ : L2.St) (H : Hp) (k : List Addr → List Addr → Store → MP.Env → Prop) : Prop := ∃ (ex ms : List Addr) (st : Store) (ρ : MP.Env), RS ca K ex ms st H ∧ SlotRel ca K (vw ex ms st H) ms σ ρ ∧ k ex ms st ρ
def WE' (σ : L2.St) : XK := fun cls dd H => W cls dd σ H
def relB : Hp → List Addr → Bool → D → Prop := fun _ _ b d => d = .bl b
def tV (c : CE) : TE := fun σ H Q => G ca K σ H fun ex ms st ρ => post ca K (VRel ca K) ex ms st H (evalM P Φ ρ .v c st) Q (WE' W σ)
def tT (c : CE) : TT := fun σ H Q => G ca K σ H fun ex ms st ρ => post ca K relB ex ms st H (evalM P Φ ρ .t c st) Q (WE' W σ)
def tAs (cs : List CE) : TA := fun σ H Q => G ca K σ H fun ex ms st ρ => post ca K (VRels ca K) ex ms st H (evalEs P Φ ρ cs st) Q (WE' W σ)
def tOp' (c : Option CE) : TO := fun σ H Q => G ca K σ H fun ex ms st ρ => post ca K (fun _ _ b a => b = a) ex ms st H (evalO P Φ ρ c st) Q (WE' W σ)
end

/-- what every body needs -/
structure CtxOk (ca : String → Option Addr) (P : Prog) (k : Nat) (X : Cx) (W : WX) : Prop where
  calm : X.calm = true
  nd : X.N.Nodup
  tk : Takes X W
  hp : PassesOwn (model X.prog X.w) X.A X.env X.xe
  room : Room (k + 4) X.A
  gd : X.A.guards = some []
  gl : ∀ x d, P.gl x = some d → ∃ u v, X.mg (nmS x) = some u ∧ RelV v u ∧ ∀ F ms, VRel ca X.K F ms v d

section
variable {P : Prog} {Φ : Calls} {ca : String → Option Addr} {k : Nat} {X : Cx} {W : WX}
theorem s_var {i : Nat} {x : Str} {pos : Pos} (hN : X.N[i]? = some x) (hv : Vis X.env.scope x) (hd : (x == ("__debug__" : Str)) = false) (hcd : (x == ("__classdict__" : Str)) = false) : PE X (.Name x pos) (tV P Φ ca X.K W (.var i)) := by
  refine (pe_var hN hv hd hcd).imp fun σ H Q => ?_
  rintro ⟨ex, ms, st, ρ, rs, sl, h⟩
  simp only [evalM, fin_v] at h
  split at h
  · rename_i d e
    obtain ⟨v, h1, h2⟩ := sl.2 i d e
    exact ⟨v, h1, h.here rs h2⟩
  · exact h.elim
theorem s_gc (C : CtxOk ca P k X W) {x : String} {pos : Pos} (hg : L2.Gl X (nmS x)) (hd : (nmS x == ("__debug__" : Str)) = false) : PE X (.Name (nmS x) pos) (tV P Φ ca X.K W (.gc x)) := by
  cases e : P.gl x with
  | none =>
    refine PE.no.imp fun σ H Q => ?_
    rintro ⟨ex, ms, st, ρ, rs, sl, h⟩
    simp only [evalM, fin_v, e] at h
    exact h
  | some d =>
    obtain ⟨u, v, h1, h2, h3⟩ := C.gl x d e
    refine (pe_glob hg h1 h2 hd).imp fun σ H Q => ?_
    rintro ⟨ex, ms, st, ρ, rs, sl, h⟩
    simp only [evalM, fin_v, e] at h
    exact h.here rs (h3 _ _)
theorem s_int {i : Int} {j : Nat} {pos : Pos} : PE X (.Constant (.int i) j pos) (tV P Φ ca X.K W (.cst (.int i))) :=
  pe_int.imp fun σ H Q ⟨ex, ms, st, ρ, rs, sl, h⟩ => by simp only [evalM, fin_v] at h; exact h.here rs (.int i)
theorem s_bl {i : Bool} {j : Nat} {pos : Pos} : PE X (.Constant (.bool i) j pos) (tV P Φ ca X.K W (.cst (.bl i))) :=
  pe_bl.imp fun σ H Q ⟨ex, ms, st, ρ, rs, sl, h⟩ => by simp only [evalM, fin_v] at h; exact h.here rs (.bl i)
theorem s_str {i : Str} {j : Nat} {pos : Pos} : PE X (.Constant (.str i) j pos) (tV P Φ ca X.K W (.cst (.str i))) :=
  pe_str.imp fun σ H Q ⟨ex, ms, st, ρ, rs, sl, h⟩ => by simp only [evalM, fin_v] at h; exact h.here rs (.str i)
theorem s_non {j : Nat} {pos : Pos} : PE X (.Constant .none j pos) (tV P Φ ca X.K W (.cst .non)) :=
  pe_non.imp fun σ H Q ⟨ex, ms, st, ρ, rs, sl, h⟩ => by simp only [evalM, fin_v] at h; exact h.here rs .non

/-- two in a row -/
theorem s_two {a b : CE} {op : V → V → Hp → VK → Prop} {c : CE} {f : D → D → Store → R D} (hc : ∀ ρ st, evalM P Φ ρ .v c st = (evalM P Φ ρ .v a st).bd fun x st => (evalM P Φ ρ .v b st).bd fun y st => f x y st)
    (ho : ∀ (ex ms : List Addr) (st : Store) (H : Hp) (x y : D) (u v : V) (Q : VK) (E : XK), RS ca X.K ex ms st H → VRel ca X.K (vw ex ms st H) ms u x → VRel ca X.K (vw ex ms st H) ms v y → post ca X.K (VRel ca X.K) ex ms st H (f x y st) Q E → op u v H Q) :
    ∀ σ H Q, tV P Φ ca X.K W c σ H Q → tOp op (tV P Φ ca X.K W a) (tV P Φ ca X.K W b) σ H Q := by
  rintro σ H Q ⟨ex, ms, st, ρ, rs, sl, h⟩
  rw [hc] at h
  refine ⟨ex, ms, st, ρ, rs, sl, h.bd fun d st1 ms1 H1 u rs1 x1 r1 h1 => ⟨ex, ms1, st1, ρ, rs1, sl.mono x1.same x1.pre, h1.bd fun d2 st2 ms2 H2 v rs2 x2 r2 h2 => ?_⟩⟩
  exact ho ex ms2 st2 H2 d d2 u v Q _ rs2 (r1.mono x2.same x2.pre) r2 h2

section
variable {ex ms : List Addr} {st : Store} {H : Hp} {pins : List (Addr × Obj)} {σ : L2.St} {s : Shared}
theorem look_rel (rs : RS ca X.K ex ms st H) {v : V} {d : D} (r : VRel ca X.K (vw ex ms st H) ms v d) : VRel ca X.K H ms v (look st d) := by
  unfold look
  split
  · rename_i n
    split
    · rename_i xs e
      cases r with
      | own h =>
        obtain ⟨vs, h1, h2⟩ := rs.cells n _ _ h e
        exact .lst (.inl (.inl h1)) (h2.mono vw_le List.prefix_rfl)
    · exact r.mono vw_le List.prefix_rfl
  · exact r.mono vw_le List.prefix_rfl
/-- a list or a tuple, as it is read -/
theorem seq_rel (rs : RS ca X.K ex ms st H) {v : V} {d : D} {xs : List D} (r : VRel ca X.K (vw ex ms st H) ms v d) (e : seqOf st d = some xs) :
    ∃ (a : Addr) (vs : List V), v = .ref a ∧ (SqL X.K H a vs ∨ SqT X.K H a vs) ∧ VRels ca X.K (vw ex ms st H) ms vs xs := by
  cases r with
  | tup h r => cases e; exact ⟨_, _, rfl, .inr (Same.seqT vw_le h), r⟩
  | lst h r => cases e; exact ⟨_, _, rfl, .inl (Same.seqL vw_le h), r⟩
  | own h =>
    simp only [seqOf] at e
    split at e
    · rename_i ys e2
      cases e
      obtain ⟨vs, h1, h2⟩ := rs.cells _ _ _ h e2
      exact ⟨_, vs, rfl, .inl (.inl (.inl h1)), h2⟩
    · cases e
  | non => cases e
  | bl => cases e
  | int => cases e
  | str => cases e
  | obj => cases e
mutual
theorem reads_of (I : Inv X pins σ H s) : ∀ {v : V} {d : D} {u : Value} {pd : PyData}, VRel ca X.K H ms v d → RelV v u → d.py = some pd → ∃ as, Reads s.heap u pd as
  | _, _, u, pd, .non, r, e => by
    cases (show u = Value.none from r)
    simp only [D.py, Option.some.injEq] at e; subst e
    exact ⟨_, .none⟩
  | _, _, u, pd, .bl b, r, e => by
    cases (show u = Value.bool b from r)
    simp only [D.py, Option.some.injEq] at e; subst e
    exact ⟨_, .bool b⟩
  | _, _, u, pd, .int i, r, e => by
    obtain ⟨t, rfl⟩ := (show ∃ t, u = Value.int i t from r)
    simp only [D.py, Option.some.injEq] at e; subst e
    exact ⟨_, .int i t⟩
  | _, _, u, pd, .str x, r, e => by
    obtain ⟨t, rfl⟩ := (show ∃ t, u = Value.str x t from r)
    simp only [D.py, Option.some.injEq] at e; subst e
    exact ⟨_, .str x t⟩
  | _, _, u, pd, .tup (a := a) h q, r, e => by
    cases (show u = Value.ref a from r)
    simp only [D.py, Option.map_eq_some_iff] at e
    obtain ⟨ps, e1, rfl⟩ := e
    obtain ⟨its, rv, ⟨o, h1, h2, n, h3⟩, _⟩ := I.tuple h
    obtain ⟨as, hr⟩ := readss_of I q rv e1
    exact ⟨_, .tuple h1 h2 h3 (by simpa using hr)⟩
  | _, _, u, pd, .lst (a := a) h q, r, e => by
    cases (show u = Value.ref a from r)
    simp only [D.py, Option.map_eq_some_iff] at e
    obtain ⟨ps, e1, rfl⟩ := e
    obtain ⟨its, rv, ⟨o, n, h1, h2, _, h3⟩, _⟩ := I.list h
    obtain ⟨as, hr⟩ := readss_of I q rv e1
    exact ⟨_, .list h1 h2 h3 (by simpa using hr)⟩
  | _, _, u, pd, .obj _ _ _ _, r, e => by simp [D.py] at e
  | _, _, u, pd, .own _, r, e => by simp [D.py] at e
theorem readss_of (I : Inv X pins σ H s) : ∀ {v : List V} {d : List D} {u : List Value} {pd : List PyData}, VRels ca X.K H ms v d → Vals v u → D.pys d = some pd → ∃ as, ReadsAll s.heap u pd as
  | _, _, _, pd, .nil, .nil, e => by
    simp only [D.pys, Option.some.injEq] at e; subst e
    exact ⟨_, .nil⟩
  | _, _, _, pd, .cons h q, .cons r1 r2, e => by
    simp only [D.pys] at e
    split at e
    · rename_i a as e1 e2
      cases e
      obtain ⟨_, h1⟩ := reads_of I h r1 e1
      obtain ⟨_, h2⟩ := readss_of I q r2 e2
      exact ⟨_, .cons h1 h2⟩
    · cases e
end
end
end
end MP
end

section
set_option linter.all false
set_option autoImplicit false
set_option maxHeartbeats 1000000
namespace MP
open PySem L2 PyProof.Rows

def opOf : Op2 → Operator
  | .add => .Add | .sub => .Sub | .mul => .Mult | .fdiv => .FloorDiv | .mod => .Mod | .pow => .Pow
def cmpOf : OpC → CmpOp
  | .lt => .Lt | .le => .LtE | .gt => .Gt | .ge => .GtE | .eq => .Eq | .ne => .NotEq | .is_ => .Is | .isnot => .IsNot | .in_ => .In | .notin => .NotIn
theorem LINE_eq : sizeLine = LINE := sizeLine_eq

section
variable {ca : String → Option Addr} {X : Cx}
/-- an operator by plain data -/
def rD (ca : String → Option Addr) (K : PySem.W.Frag) (f : Store → D → D → Option D) : R2 := fun x y H Q =>
  ∃ (ex ms : List Addr) (st : Store) (a b : D) (E : XK), RS ca K ex ms st H ∧ VRel ca K (vw ex ms st H) ms x a ∧ VRel ca K (vw ex ms st H) ms y b ∧ post ca K (VRel ca K) ex ms st H (opt (f st a b) st) Q E

theorem op_catR : OpR X (binaryOp .Add) (fun x y H Q => ∃ l b xs zs, x = .ref l ∧ y = .ref b ∧ SqL X.K H l xs ∧ SqL X.K H b zs ∧ xs.length + zs.length ≤ sizeLine ∧ ∀ p, H p = none → Q (.ref p) (upd H p (.lst (xs ++ zs)))) := by
  intro pins s σ H x y v u Q I rx ry h
  obtain ⟨l, b, xs, zs, rfl, rfl, hH, hB, hz, q⟩ := h
  cases (show v = Value.ref l from rx)
  cases (show u = Value.ref b from ry)
  obtain ⟨its, r, ⟨⟨c1, d1, w1, s1⟩, n, e, f1, f2, f3⟩, _⟩ := I.list hH
  obtain ⟨its2, r2, ⟨⟨c2, d2, w2, s2⟩, n2, e2, g1, g2, g3⟩, _⟩ := I.list hB
  dsimp only at f1 f2 f3 g1 g2 g3
  subst f1 f3 g1 g3
  have l1 := r.length
  have l2 := r2.length
  refine concat_meets ⟨_, e, rfl⟩ ⟨_, e2, rfl⟩ noFill_list_add seq_list_add PySem.F.slot_list_add PySem.F.entry_list_add (PySem.F.args_list_add_2 _ _) (list_addW l b its.toArray its2.toArray n n2 d1 d2 s1 s2 (by simp; omega)) ⟨e, e2, ?_⟩
  have all : its.toArray ++ its2.toArray = (its ++ its2).toArray := by simp
  rw [all]
  exact ⟨.ref _, _, I.lnew (t' := s.toks) (r.append r2) (by rw [List.length_append]; omega), rfl, q _ I.fresh⟩
/-- no list is a tuple -/
theorem sq_apart {pins : List (Addr × Obj)} {σ : L2.St} {H : Hp} {s : Shared} {a : Addr} {xs ys : List V} (I : Inv X pins σ H s) (h1 : SqL X.K H a xs) (h2 : SqT X.K H a ys) : False := by
  obtain ⟨_, _, ⟨o, n, e, f1, _⟩, _⟩ := I.list h1
  obtain ⟨_, _, ⟨o2, e2, g1, _⟩, _⟩ := I.tuple h2
  rw [e] at e2
  cases e2
  rw [f1] at g1
  have z : "list" = "tuple" := Value.type.inj g1
  exact absurd z (by decide)

theorem log2_small {i : Int} (h : bigOk i = true) : i.natAbs.log2 < 4000 := by
  have h' : i.natAbs < BIG := of_decide_eq_true h
  unfold BIG at h'
  rcases Nat.eq_zero_or_pos i.natAbs with z | z
  · rw [z]; decide
  · exact (Nat.log2_lt (by omega)).mpr h'
theorem vr_int {K : PySem.W.Frag} {F : Hp} {ms : List Addr} {x : V} {i : Int} (r : VRel ca K F ms x (.int i)) : x = .int i := by cases r; rfl
theorem vr_str {K : PySem.W.Frag} {F : Hp} {ms : List Addr} {x : V} {i : Str} (r : VRel ca K F ms x (.str i)) : x = .str i := by cases r; rfl
theorem vr_bl {K : PySem.W.Frag} {F : Hp} {ms : List Addr} {x : V} {i : Bool} (r : VRel ca K F ms x (.bl i)) : x = .bl i := by cases r; rfl
theorem vr_non {K : PySem.W.Frag} {F : Hp} {ms : List Addr} {x : V} (r : VRel ca K F ms x .non) : x = .non := by cases r; rfl
theorem bb {a b : Bool} (h : (a && b) = true) : a = true ∧ b = true := by simpa using h

theorem op_bin (o : Op2) : OpR X (binaryOp (opOf o)) (rD ca X.K fun _ => binF o) := by
  intro pins s σ H x y v u Q I rx ry h
  obtain ⟨ex, ms, st, a, b, E, rs, ra, rb, h⟩ := h
  obtain ⟨d, e, h⟩ := h.opt
  have done : ∀ {z : V}, VRel ca X.K (vw ex ms st H) ms z d → Q z H := fun q => h.here rs q
  replace e : binF o a b = some d := e
  unfold binF at e
  split at e
  · cases e; cases vr_int ra; cases vr_int rb
    exact op_add pins s σ H _ _ v u Q I rx ry ⟨_, _, rfl, rfl, done (.int _)⟩
  · rename_i i k
    cases e; cases vr_int ra; cases vr_bl rb
    refine op_add_ib pins s σ H _ _ v u Q I rx ry ⟨_, _, rfl, rfl, done ?_⟩
    have : b2i k = (if k = true then 1 else 0 : Int) := by cases k <;> rfl
    rw [this]; exact .int _
  · split at e
    · rename_i hz
      cases e; cases vr_str ra; cases vr_str rb
      exact op_add_str pins s σ H _ _ v u Q I rx ry ⟨_, _, rfl, rfl, by rw [LINE_eq]; exact hz, done (.str _)⟩
    · cases e
  · split at e
    · rename_i hz
      cases e
      cases ra with
      | lst h1 q1 => cases rb with
        | lst h2 q2 =>
          refine op_catR pins s σ H _ _ v u Q I rx ry ⟨_, _, _, _, rfl, rfl, Same.seqL vw_le h1, Same.seqL vw_le h2, by rw [LINE_eq, q1.length, q2.length]; exact hz, fun p hp => ?_⟩
          obtain ⟨r1, x1, m1⟩ := rs.made (o := .lst _) hp
          exact h _ _ _ r1 x1 (.lst (.inl (.inl m1)) ((q1.append q2).mono x1.same x1.pre))
    · cases e
  · split at e
    · rename_i hz
      cases e
      have l1 := ra
      have l2 := rb
      cases ra with
      | tup h1 q1 => cases rb with
        | tup h2 q2 =>
          refine op_catA pins s σ H _ _ v u Q I rx ry ⟨_, _, _, _, rfl, rfl, Same.seqT vw_le h1, Same.seqT vw_le h2, by rw [LINE_eq, q1.length, q2.length]; exact hz, fun z => ?_, fun _ z => ?_, fun _ _ p hp => ?_⟩
          · subst z; cases q1; exact done l2
          · subst z; cases q2; rw [List.append_nil] at done; exact done l1
          · obtain ⟨r1, x1, m1⟩ := rs.made (o := .tup _) hp
            exact h _ _ _ r1 x1 (.tup (.inl (.inl m1)) ((q1.append q2).mono x1.same x1.pre))
    · cases e
  · cases e; cases vr_int ra; cases vr_int rb
    exact op_sub pins s σ H _ _ v u Q I rx ry ⟨_, _, rfl, rfl, done (.int _)⟩
  · split at e
    · rename_i hz
      cases e; cases vr_int ra; cases vr_int rb
      obtain ⟨h1, h2⟩ := bb hz
      refine op_mulW pins s σ H _ _ v u Q I rx ry ⟨_, _, rfl, rfl, ?_, done (.int _)⟩
      have := log2_small h1
      have := log2_small h2
      unfold CMulW; omega
    · cases e
  · split at e
    · rename_i hz
      cases e; cases vr_int ra; cases vr_int rb
      obtain ⟨h1, h2⟩ := bb hz
      refine op_fdivW pins s σ H _ _ v u Q I rx ry ⟨_, _, rfl, rfl, ⟨by simpa using h1, ?_⟩, done (.int _)⟩
      have := log2_small h2
      omega
    · cases e
  · split at e
    · rename_i hz
      cases e; cases vr_int ra; cases vr_int rb
      exact op_mod pins s σ H _ _ v u Q I rx ry ⟨_, _, rfl, rfl, hz, done (.int _)⟩
    · cases e
  · split at e
    · rename_i hz
      cases e; cases vr_int ra; cases vr_int rb
      simp only [Bool.and_eq_true, decide_eq_true_eq] at hz
      refine op_pow pins s σ H _ _ v u Q I rx ry ⟨_, _, rfl, rfl, ⟨hz.1.1, by omega, hz.2⟩, done (.int _)⟩
    · cases e
  · cases e

theorem eqv_run (C : X.A.units + 64 < cLine) {pins : List (Addr × Obj)} {s : Shared} {σ : L2.St} {H : Hp} {ms : List Addr} (I : Inv X pins σ H s) {x y : V} {v u : Value} {a b : D} {k : Bool} (rx : RelV x v) (ry : RelV y u) (ra : VRel ca X.K H ms x a) (rb : VRel ca X.K H ms y b) (e : eqF a b = some k) :
    ∀ {Q : Value → Shared → Prop} {E : Value → Shared → Prop}, (Q (.bool k) s → wpAny (model X.prog X.w) X.A (compareOp .Eq v u) Q E s) ∧ (Q (.bool (!k)) s → wpAny (model X.prog X.w) X.A (compareOp .NotEq v u) Q E s) := by
  intro Q E
  unfold eqF at e
  split at e
  · cases e
    cases vr_str ra; cases vr_str rb
    obtain ⟨t, rfl⟩ := rx
    obtain ⟨t', rfl⟩ := ry
    exact ⟨fun q => PyProof.Rows.eq_str q, fun q => PyProof.Rows.ne_str q⟩
  split at e
  · rename_i pa pb ea eb
    split at e
    · rename_i hz
      cases e
      simp only [Bool.and_eq_true, decide_eq_true_eq] at hz
      obtain ⟨as, h1⟩ := reads_of I ra rx ea
      obtain ⟨bs, h2⟩ := reads_of I rb ry eb
      have sa : SeqAt.shaped pa = true := by unfold SeqAt.shaped; rw [hz.1.1.1, decide_eq_true hz.1.2]; rfl
      have sb : SeqAt.shaped pb = true := by unfold SeqAt.shaped; rw [hz.1.1.2, decide_eq_true hz.2]; rfl
      exact ⟨fun q => eq_dataH h1 h2 sa sb C q, fun q => ne_dataH h1 h2 sa sb C q⟩
    · cases e
  · cases e
theorem in_run (C : X.A.units + 200 < cLine) {pins : List (Addr × Obj)} {s : Shared} {σ : L2.St} {H : Hp} {ms : List Addr} (I : Inv X pins σ H s) {x : V} {v : Value} {p : Addr} {vs : List V} {a : D} {xs : List D} {k : Bool} (rx : RelV x v) (ra : VRel ca X.K H ms x a)
    (hq : SqL X.K H p vs ∨ SqT X.K H p vs) (rb : VRels ca X.K H ms vs xs) (e : inF a xs = some k) :
    ∀ {Q : Value → Shared → Prop} {E : Value → Shared → Prop}, (Q (.bool k) s → wpAny (model X.prog X.w) X.A (compareOp .In v (.ref p)) Q E s) ∧ (Q (.bool (!k)) s → wpAny (model X.prog X.w) X.A (compareOp .NotIn v (.ref p)) Q E s) := by
  intro Q E
  unfold inF at e
  split at e
  · rename_i pa pb ea eb
    split at e
    · rename_i hz
      cases e
      simp only [Bool.and_eq_true, decide_eq_true_eq] at hz
      obtain ⟨as, h1⟩ := reads_of I ra rx ea
      have hu : X.A.units + 1 + min (PyData.depthAll pb) pa.depth < cLine := by
        have := Nat.min_le_right (PyData.depthAll pb) pa.depth
        omega
      rcases hq with hq | hq
      · obtain ⟨its, rv, ⟨o, n, h2, h3, _, h4⟩, _⟩ := I.list hq
        obtain ⟨bs, h5⟩ := readss_of I rb rv eb
        have h6 : Reads s.heap (.ref p) (.list pb) (p :: bs) := .list h2 h3 h4 (by simpa using h5)
        exact ⟨fun q => SeqAt.in_list_reads h6 h1 hz.1.2 hz.1.1 hu q, fun q => SeqAt.notIn_list_reads h6 h1 hz.1.2 hz.1.1 hu q⟩
      · obtain ⟨its, rv, ⟨o, h2, h3, n, h4⟩, _⟩ := I.tuple hq
        obtain ⟨bs, h5⟩ := readss_of I rb rv eb
        have h6 : Reads s.heap (.ref p) (.tuple pb) bs := .tuple h2 h3 h4 (by simpa using h5)
        exact ⟨fun q => SeqAt.in_tuple_reads h6 h1 hz.1.2 hz.1.1 hu q, fun q => SeqAt.notIn_tuple_reads h6 h1 hz.1.2 hz.1.1 hu q⟩
    · cases e
  · cases e

/-- comparisons by plain data -/
def rC (ca : String → Option Addr) (K : PySem.W.Frag) (o : OpC) : R2 := fun x y H Q =>
  ∃ (ex ms : List Addr) (st : Store) (a b : D) (k : Bool), RS ca K ex ms st H ∧ VRel ca K (vw ex ms st H) ms x a ∧ VRel ca K (vw ex ms st H) ms y b ∧ cmpF st o a b = some k ∧ Q (.bl k) H
theorem isNon_dec {K : PySem.W.Frag} {F : Hp} {ms : List Addr} {x : V} {a : D} (r : VRel ca K F ms x a) : decide (x = .non) = isNon a := by
  cases r <;> simp [isNon]
theorem ord_run {X : Cx} {o : OpC} {op : CmpOp} {f : Int → Int → Bool} (hop : OpR X (compareOp op) (rI0 fun i j => .bl (f i j))) (hf : ∀ st a b k, cmpF st o a b = some k → ∃ i j, a = .int i ∧ b = .int j ∧ k = f i j) : OpR X (compareOp op) (rC ca X.K o) := by
  intro pins s σ H x y v u Q I rx ry h
  obtain ⟨ex, ms, st, a, b, k, rs, ra, rb, e, q⟩ := h
  obtain ⟨i, j, rfl, rfl, rfl⟩ := hf _ _ _ _ e
  cases vr_int ra; cases vr_int rb
  exact hop pins s σ H _ _ v u Q I rx ry ⟨_, _, rfl, rfl, q⟩
theorem kv_rel {K : PySem.W.Frag} {F : Hp} {ms : List Addr} {kvs : List (L2.Key × V)} {ds : List (Sum Int Str × D)} (k : L2.Key) (r : Paired (fun (p : L2.Key × V) (q : Sum Int Str × D) => p.1 = q.1 ∧ VRel ca K F ms p.2 q.2) kvs ds) :
    match valV kvs k, valD ds k with
    | some v, some d => VRel ca K F ms v d
    | none, none => True
    | _, _ => False := by
  induction r with
  | nil => exact True.intro
  | @cons p q ps qs h t ih =>
    by_cases e : p.1 = k
    · have e2 : q.1 = k := h.1 ▸ e
      have v1 : valV (p :: ps) k = some p.2 := valV_pos e
      have v2 : valD (q :: qs) k = some q.2 := by simp [valD, List.find?_cons, e2]
      rw [v1, v2]; exact h.2
    · have e2 : ¬ q.1 = k := h.1 ▸ e
      have v1 : valV (p :: ps) k = valV ps k := valV_neg e
      have v2 : valD (q :: qs) k = valD qs k := by simp [valD, List.find?_cons, e2]
      rw [v1, v2]; exact ih
theorem kv_some {K : PySem.W.Frag} {F : Hp} {ms : List Addr} {kvs : List (L2.Key × V)} {ds : List (Sum Int Str × D)} (k : L2.Key) (r : Paired (fun (p : L2.Key × V) (q : Sum Int Str × D) => p.1 = q.1 ∧ VRel ca K F ms p.2 q.2) kvs ds) : (valV kvs k).isSome = (valD ds k).isSome := by
  have h := kv_rel k r
  revert h
  cases valV kvs k <;> cases valD ds k <;> simp
theorem kv_get {K : PySem.W.Frag} {F : Hp} {ms : List Addr} {kvs : List (L2.Key × V)} {ds : List (Sum Int Str × D)} {k : L2.Key} {d : D} (r : Paired (fun (p : L2.Key × V) (q : Sum Int Str × D) => p.1 = q.1 ∧ VRel ca K F ms p.2 q.2) kvs ds) (e : valD ds k = some d) : ∃ v, valV kvs k = some v ∧ VRel ca K F ms v d := by
  have h := kv_rel k r
  rw [e] at h
  revert h
  cases valV kvs k with
  | none => simp
  | some v => exact fun h => ⟨v, rfl, h⟩
theorem kv_put {K : PySem.W.Frag} {F : Hp} {ms : List Addr} {kvs : List (L2.Key × V)} {ds : List (Sum Int Str × D)} (k : L2.Key) {v : V} {d : D} (q : VRel ca K F ms v d) (r : Paired (fun (p : L2.Key × V) (q : Sum Int Str × D) => p.1 = q.1 ∧ VRel ca K F ms p.2 q.2) kvs ds) :
    Paired (fun (p : L2.Key × V) (q : Sum Int Str × D) => p.1 = q.1 ∧ VRel ca K F ms p.2 q.2) (putK kvs k v) (putD ds k d) := by
  have e : (kvs.any fun kv => decide (kv.1 = k)) = (ds.any fun kv => decide (kv.1 = k)) := by
    induction r with
    | nil => rfl
    | cons h t ih => rw [List.any_cons, List.any_cons, ih, h.1]
  unfold putK putD
  rw [e]
  by_cases z : (ds.any fun kv => decide (kv.1 = k)) = true
  · rw [if_pos z, if_pos z]
    clear e z
    induction r with
    | nil => exact .nil
    | @cons p q' ps qs h t ih =>
      rw [List.map_cons, List.map_cons]
      refine .cons ?_ ih
      by_cases e : p.1 = k
      · rw [if_pos e, if_pos (h.1 ▸ e)]; exact ⟨h.1, q⟩
      · rw [if_neg e, if_neg (h.1 ▸ e)]; exact h
  · rw [if_neg z, if_neg z]
    clear e z
    induction r with
    | nil => exact .cons ⟨rfl, q⟩ .nil
    | cons h t ih => exact .cons h ih
theorem key_rel {K : PySem.W.Frag} {F : Hp} {ms : List Addr} {x : V} {d : D} {k : Sum Int Str} (r : VRel ca K F ms x d) (e : keyOf d = some k) : x = kV k := by
  cases r <;> simp only [keyOf] at e <;> first | (cases e; rfl) | cases e
theorem Paired.len {α β : Type} {R : α → β → Prop} {xs : List α} {ys : List β} (r : Paired R xs ys) : xs.length = ys.length := by
  induction r with
  | nil => rfl
  | cons _ _ ih => rw [List.length_cons, List.length_cons, ih]

/-- in, by the container -/
theorem in_cases (hu : X.A.units + 200 < cLine) {pins : List (Addr × Obj)} {s : Shared} {σ : L2.St} {H : Hp} {ex ms : List Addr} {st : Store} (I : Inv X pins σ H s) (rs : RS ca X.K ex ms st H) {x y : V} {v u : Value} {a b : D} {k : Bool}
    (rx : RelV x v) (ry : RelV y u) (ra : VRel ca X.K (vw ex ms st H) ms x a) (rb : VRel ca X.K (vw ex ms st H) ms y b) (e : inC st a b = some k) :
    (∀ {Q : VK}, Q (.bl k) H → wpAny (model X.prog X.w) X.A (compareOp .In v u) (EP X pins σ Q) X.xe s) ∧ (∀ {Q : VK}, Q (.bl (!k)) H → wpAny (model X.prog X.w) X.A (compareOp .NotIn v u) (EP X pins σ Q) X.xe s) := by
  have seqs : ∀ {xs : List D}, seqOf st b = some xs → inF a xs = some k → (∀ {Q : VK}, Q (.bl k) H → wpAny (model X.prog X.w) X.A (compareOp .In v u) (EP X pins σ Q) X.xe s) ∧ (∀ {Q : VK}, Q (.bl (!k)) H → wpAny (model X.prog X.w) X.A (compareOp .NotIn v u) (EP X pins σ Q) X.xe s) := fun {xs} hs hi => by
    obtain ⟨p, vs, rfl, hq, r⟩ := seq_rel rs rb hs
    cases ry
    exact ⟨fun q => (in_run hu I rx (ra.mono vw_le List.prefix_rfl) hq (r.mono vw_le List.prefix_rfl) hi).1 ⟨.bl k, H, I, rfl, q⟩, fun q => (in_run hu I rx (ra.mono vw_le List.prefix_rfl) hq (r.mono vw_le List.prefix_rfl) hi).2 ⟨.bl (!k), H, I, rfl, q⟩⟩
  unfold inC at e
  split at e
  · split at e
    · rename_i z a
      split at e
      · rename_i c hc
        cases e
        cases vr_str ra; cases vr_str rb
        have ea : a = ⟨#[c]⟩ := by
          cases a with
          | mk cps =>
            have : cps = #[c] := by
              rw [← Array.toArray_toList (xs := cps)]
              simp only at hc
              rw [hc]
            rw [this]
        subst ea
        exact ⟨fun q => op_in_sign pins s σ H _ _ v u _ I rx ry ⟨_, _, rfl, rfl, q⟩, fun q => op_notIn_sign pins s σ H _ _ v u _ I rx ry ⟨_, _, rfl, rfl, q⟩⟩
      · cases e
    · cases e
  · exact seqs rfl e
  · exact seqs rfl e
  · rename_i n
    split at e
    · rename_i kvs hs
      simp only [Option.map_eq_some_iff] at e
      obtain ⟨key, e1, rfl⟩ := e
      cases rb with
      | own h =>
        obtain ⟨kv, h1, h2⟩ := rs.cells _ _ _ h hs
        cases ry
        cases key_rel ra e1
        have hk := kv_some key h2
        constructor
        · intro Q q
          refine d_in (by omega) I (.inl ⟨kv, key, .inl h1, rfl, rfl⟩) rx fun s' I' => ⟨.bl _, H, I', rfl, ?_⟩
          rw [hk]; exact q
        · intro Q q
          refine d_notIn (by omega) I (.inl ⟨kv, key, .inl h1, rfl, rfl⟩) rx fun s' I' => ⟨.bl _, H, I', rfl, ?_⟩
          rw [hk]; exact q
    · rename_i xs hs
      exact seqs (by simp only [seqOf, hs]) e
    · cases e
  · cases e
theorem op_cmp (hu : X.A.units + 200 < cLine) (o : OpC) : OpR X (compareOp (cmpOf o)) (rC ca X.K o) := by
  have ord : ∀ {f : Int → Int → Bool} {a b : D} {k : Bool}, (match a, b with | .int i, .int j => some (f i j) | _, _ => none) = some k → ∃ i j, a = .int i ∧ b = .int j ∧ k = f i j := by
    intro f a b k e
    split at e
    · cases e; exact ⟨_, _, rfl, rfl, rfl⟩
    · cases e
  cases o with
  | lt => exact ord_run op_lt fun st a b k e => ord (f := fun i j => decide (i < j)) e
  | le => exact ord_run op_le fun st a b k e => ord (f := fun i j => decide (i ≤ j)) e
  | gt => exact ord_run op_gt fun st a b k e => ord (f := fun i j => decide (j < i)) e
  | ge => exact ord_run op_ge fun st a b k e => ord (f := fun i j => decide (j ≤ i)) e
  | eq =>
    intro pins s σ H x y v u Q I rx ry h
    obtain ⟨ex, ms, st, a, b, k, rs, ra, rb, e, q⟩ := h
    exact (eqv_run (by omega) I rx ry (look_rel rs ra) (look_rel rs rb) e).1 ⟨.bl k, H, I, rfl, q⟩
  | ne =>
    intro pins s σ H x y v u Q I rx ry h
    obtain ⟨ex, ms, st, a, b, k, rs, ra, rb, e, q⟩ := h
    simp only [cmpF, Option.map_eq_some_iff] at e
    obtain ⟨k', e, rfl⟩ := e
    exact (eqv_run (by omega) I rx ry (look_rel rs ra) (look_rel rs rb) e).2 ⟨.bl (!k'), H, I, rfl, q⟩
  | is_ =>
    intro pins s σ H x y v u Q I rx ry h
    obtain ⟨ex, ms, st, a, b, k, rs, ra, rb, e, q⟩ := h
    simp only [cmpF] at e
    split at e
    · cases e
      exact op_isN pins s σ H x y v u Q I rx ry ⟨vr_non rb, by rw [isNon_dec ra]; exact q⟩
    · cases e
  | isnot =>
    intro pins s σ H x y v u Q I rx ry h
    obtain ⟨ex, ms, st, a, b, k, rs, ra, rb, e, q⟩ := h
    simp only [cmpF] at e
    split at e
    · cases e
      exact op_notN pins s σ H x y v u Q I rx ry ⟨vr_non rb, by rw [isNon_dec ra]; exact q⟩
    · cases e
  | in_ =>
    intro pins s σ H x y v u Q I rx ry h
    obtain ⟨ex, ms, st, a, b, k, rs, ra, rb, e, q⟩ := h
    exact (in_cases hu I rs rx ry ra rb e).1 q
  | notin =>
    intro pins s σ H x y v u Q I rx ry h
    obtain ⟨ex, ms, st, a, b, k, rs, ra, rb, e, q⟩ := h
    have e' : ∃ k', inC st a b = some k' ∧ k = !k' := by
      simp only [cmpF, Option.map_eq_some_iff] at e
      obtain ⟨k', e, rfl⟩ := e
      exact ⟨k', e, rfl⟩
    obtain ⟨k', e', rfl⟩ := e'
    exact (in_cases hu I rs rx ry ra rb e').2 q
end
end MP
end

section
set_option linter.all false
set_option autoImplicit false
set_option maxHeartbeats 1000000
namespace MP
open PySem L2 PyProof.Rows

section
variable {ca : String → Option Addr} {X : Cx}
def rP (ca : String → Option Addr) (K : PySem.W.Frag) (p : Prim) : List V → Hp → VK → Prop := fun vs H Q =>
  ∃ (ex ms : List Addr) (st : Store) (ds : List D) (E : XK), RS ca K ex ms st H ∧ VRels ca K (vw ex ms st H) ms vs ds ∧ post ca K (VRel ca K) ex ms st H (opt (primF p ds st) st) Q E
theorem list_rel {ex ms : List Addr} {st : Store} {H : Hp} (rs : RS ca X.K ex ms st H) {v : V} {d : D} {xs : List D} (r : VRel ca X.K (vw ex ms st H) ms v d) (e : listOf st d = some xs) :
    ∃ (a : Addr) (vs : List V), v = .ref a ∧ SqL X.K H a vs ∧ VRels ca X.K (vw ex ms st H) ms vs xs := by
  cases r with
  | lst h r => cases e; exact ⟨_, _, rfl, Same.seqL vw_le h, r⟩
  | own h =>
    simp only [listOf] at e
    split at e
    · rename_i ys e2
      cases e
      obtain ⟨vs, h1, h2⟩ := rs.cells _ _ _ h e2
      exact ⟨_, vs, rfl, .inl (.inl h1), h2⟩
    · cases e
  | tup => cases e
  | non => cases e
  | bl => cases e
  | int => cases e
  | str => cases e
  | obj => cases e
theorem ints_rel {K : PySem.W.Frag} {F : Hp} {ms : List Addr} : ∀ {vs : List V} {ds : List D} {l : List Int}, VRels ca K F ms vs ds → intsOf ds = some l → vs = l.map V.int
  | _, _, l, .nil, e => by simp only [intsOf, Option.some.injEq] at e; subst e; rfl
  | v :: vs, d :: ds, l, .cons h r, e => by
    cases h with
    | int i =>
      simp only [intsOf, Option.map_eq_some_iff] at e
      obtain ⟨l', e1, rfl⟩ := e
      rw [List.map_cons, ← ints_rel r e1]
    | _ => simp [intsOf] at e
theorem strs_rel {K : PySem.W.Frag} {F : Hp} {ms : List Addr} : ∀ {vs : List V} {ds : List D} {l : List Str}, VRels ca K F ms vs ds → strsOf ds = some l → vs = l.map V.str
  | _, _, l, .nil, e => by simp only [strsOf, Option.some.injEq] at e; subst e; rfl
  | v :: vs, d :: ds, l, .cons h r, e => by
    cases h with
    | str i =>
      simp only [strsOf, Option.map_eq_some_iff] at e
      obtain ⟨l', e1, rfl⟩ := e
      rw [List.map_cons, ← strs_rel r e1]
    | _ => simp [strsOf] at e
theorem bools_rel {K : PySem.W.Frag} {F : Hp} {ms : List Addr} : ∀ {vs : List V} {ds : List D} {l : List Bool}, VRels ca K F ms vs ds → boolsOf ds = some l → vs = l.map V.bl
  | _, _, l, .nil, e => by simp only [boolsOf, Option.some.injEq] at e; subst e; rfl
  | v :: vs, d :: ds, l, .cons h r, e => by
    cases h with
    | bl i =>
      simp only [boolsOf, Option.map_eq_some_iff] at e
      obtain ⟨l', e1, rfl⟩ := e
      rw [List.map_cons, ← bools_rel r e1]
    | _ => simp [boolsOf] at e
theorem rels_strs {K : PySem.W.Frag} {F : Hp} {ms : List Addr} : ∀ ys : List Str, VRels ca K F ms (ys.map V.str) (ys.map D.str)
  | [] => .nil
  | y :: ys => .cons (.str y) (rels_strs ys)
theorem maxL_mem (a : Int) (l : List Int) : maxL a l ∈ a :: l ∧ ∀ y ∈ a :: l, y ≤ maxL a l := by
  induction l generalizing a with
  | nil => simp [maxL]
  | cons b l ih =>
    have e : maxL a (b :: l) = maxL (if b > a then b else a) l := rfl
    rw [e]
    obtain ⟨h1, h2⟩ := ih (if b > a then b else a)
    have h3 := h2 _ (List.mem_cons_self ..)
    refine ⟨?_, fun y hy => ?_⟩
    · rcases List.mem_cons.mp h1 with h | h
      · rw [h]; split <;> simp
      · exact List.mem_cons_of_mem _ (List.mem_cons_of_mem _ h)
    · rcases List.mem_cons.mp hy with rfl | hy
      · split at h3 <;> (split <;> omega)
      · rcases List.mem_cons.mp hy with rfl | hy
        · split at h3 <;> (split <;> omega)
        · exact h2 y (List.mem_cons_of_mem _ hy)
theorem minL_mem (a : Int) (l : List Int) : minL a l ∈ a :: l ∧ ∀ y ∈ a :: l, minL a l ≤ y := by
  induction l generalizing a with
  | nil => simp [minL]
  | cons b l ih =>
    have e : minL a (b :: l) = minL (if b < a then b else a) l := rfl
    rw [e]
    obtain ⟨h1, h2⟩ := ih (if b < a then b else a)
    have h3 := h2 _ (List.mem_cons_self ..)
    refine ⟨?_, fun y hy => ?_⟩
    · rcases List.mem_cons.mp h1 with h | h
      · rw [h]; split <;> simp
      · exact List.mem_cons_of_mem _ (List.mem_cons_of_mem _ h)
    · rcases List.mem_cons.mp hy with rfl | hy
      · split at h3 <;> (split <;> omega)
      · rcases List.mem_cons.mp hy with rfl | hy
        · split at h3 <;> (split <;> omega)
        · exact h2 y (List.mem_cons_of_mem _ hy)
theorem VRels.of1 {K : PySem.W.Frag} {F : Hp} {ms : List Addr} {vs : List V} {d : D} (r : VRels ca K F ms vs [d]) : ∃ v, vs = [v] ∧ VRel ca K F ms v d := by
  cases r with
  | cons h t => cases t; exact ⟨_, rfl, h⟩
theorem VRels.of2 {K : PySem.W.Frag} {F : Hp} {ms : List Addr} {vs : List V} {d e : D} (r : VRels ca K F ms vs [d, e]) : ∃ v w, vs = [v, w] ∧ VRel ca K F ms v d ∧ VRel ca K F ms w e := by
  cases r with
  | cons h t => cases t with
    | cons h2 t => cases t; exact ⟨_, _, rfl, h, h2⟩

structure Room' (X : Cx) : Prop where
  calm : X.calm = true
  un : X.A.units + 200 < cLine
  gd : X.A.guards = some []

/-- where a built-in function stands -/
def primV : Prim → Value
  | .len => .builtin "len" | .sum => .builtin "sum" | .min => .builtin "min" | .max => .builtin "max" | .abs => .builtin "abs"
  | .all => .builtin "all" | .any => .builtin "any" | .int => .type "int" | .bool => .type "bool" | .tuple => .type "tuple" | .list => .type "list"
  | .sorted => .builtin "sorted" | .sortedR => .builtin "sorted" | .str => .type "str" | .repr => .builtin "repr" | .divmod => .builtin "divmod"
  | .setlen => .type "set" | .dictOf => .type "dict" | .range => .type "range"

theorem call_repr_data (R : Room' X) : CallR X (.builtin "repr") (fun xs H Q => ∃ (ms : List Addr) (v : V) (d : D) (t : Str), xs = [v] ∧ VRel ca X.K H ms v d ∧ shown d = some t ∧ Q (.str t) H) := by
  intro pins s σ H xs us Q I r h
  obtain ⟨ms, v, d, t, rfl, rv, e, q⟩ := h
  obtain ⟨u, rfl, ru⟩ := vals1 r
  unfold shown at e
  split at e
  · rename_i p ep
    split at e
    · rename_i hz
      simp only [Bool.and_eq_true, decide_eq_true_eq, Bool.not_eq_true'] at hz
      obtain ⟨⟨⟨⟨h1, h2⟩, h3⟩, h4⟩, h5⟩ := hz
      cases e
      obtain ⟨as, hr⟩ := reads_of I rv ru ep
      have hu := R.un
      have isref : ∃ a, u = .ref a := by
        cases hr with
        | list => exact ⟨_, rfl⟩
        | tuple => exact ⟨_, rfl⟩
        | dict => cases h1
        | none => cases h1
        | bool => cases h1
        | int => cases h1
        | str => cases h1
      obtain ⟨a, rfl⟩ := isref
      exact repr_of_reads' hr h2 (fun z => absurd (h3.symm.trans z) Bool.false_ne_true) R.gd (by omega) (fun _ _ e => e) (fun h' w' tk hk => ⟨.str _, H, I.kept hk, ⟨_, rfl⟩, q⟩) (by rw [LINE_eq]; exact h5)
    · cases e
  · cases e

theorem call_prim (R : Room' X) (p : Prim) : CallR X (primV p) (rP ca X.K p) := by
  intro pins s σ H xs us Q I r h
  obtain ⟨ex, ms, st, ds, E, rs, rd, h⟩ := h
  obtain ⟨d, e, h⟩ := h.opt
  have done : ∀ {z : V}, VRel ca X.K (vw ex ms st H) ms z d → Q z H := fun q => h.here rs q
  unfold primF at e
  split at e
  · -- len
    rename_i d
    obtain ⟨v, rfl, rv⟩ := rd.of1
    split at e
    · split at e
      · rename_i hz
        cases e; cases vr_str rv
        exact call_len_str pins s σ H _ us Q I r ⟨_, rfl, by rw [LINE_eq]; exact hz, done (.int _)⟩
      · cases e
    · split at e
      · rename_i ys hs
        cases e
        obtain ⟨a, vs, rfl, hq, rvs⟩ := seq_rel rs rv hs
        refine call_len_seq pins s σ H _ us Q I r ⟨_, _, rfl, hq, ?_⟩
        rw [rvs.length]; exact done (.int _)
      · cases e
  · -- sum
    obtain ⟨v, rfl, rv⟩ := rd.of1
    split at e
    · rename_i ys hs
      simp only [Option.map_eq_some_iff] at e
      obtain ⟨l, e1, rfl⟩ := e
      obtain ⟨a, vs, rfl, hq, rvs⟩ := list_rel rs rv hs
      cases ints_rel rvs e1
      exact cr_sum R.calm pins s σ H _ us Q I r ⟨_, _, rfl, hq, done (.int _)⟩
    · cases e
  · -- min a b
    obtain ⟨v, w, rfl, rv, rw'⟩ := rd.of2
    cases e; cases vr_int rv; cases vr_int rw'
    exact call_min2 R.calm pins s σ H _ us Q I r ⟨_, _, rfl, done (.int _)⟩
  · obtain ⟨v, w, rfl, rv, rw'⟩ := rd.of2
    cases e; cases vr_int rv; cases vr_int rw'
    exact call_max2 R.calm pins s σ H _ us Q I r ⟨_, _, rfl, done (.int _)⟩
  · obtain ⟨v, rfl, rv⟩ := rd.of1
    split at e
    · rename_i ys hs
      split at e
      · rename_i a l e1
        cases e
        obtain ⟨p, vs, rfl, hq, rvs⟩ := list_rel rs rv hs
        cases ints_rel rvs e1
        refine cr_min R.calm pins s σ H _ us Q I r ⟨_, _, rfl, hq, by simp, fun m h1 h2 => ?_⟩
        have em : m = minL a l := Int.le_antisymm (h2 _ (minL_mem a l).1) ((minL_mem a l).2 m h1)
        rw [em]; exact done (.int _)
      · cases e
    · cases e
  · obtain ⟨v, rfl, rv⟩ := rd.of1
    split at e
    · rename_i ys hs
      split at e
      · rename_i a l e1
        cases e
        obtain ⟨p, vs, rfl, hq, rvs⟩ := list_rel rs rv hs
        cases ints_rel rvs e1
        refine cr_max R.calm pins s σ H _ us Q I r ⟨_, _, rfl, hq, by simp, fun m h1 h2 => ?_⟩
        have em : m = maxL a l := Int.le_antisymm ((maxL_mem a l).2 m h1) (h2 _ (maxL_mem a l).1)
        rw [em]; exact done (.int _)
      · cases e
    · cases e
  · obtain ⟨v, rfl, rv⟩ := rd.of1
    cases e; cases vr_int rv
    exact call_abs pins s σ H _ us Q I r ⟨_, rfl, done (.int _)⟩
  · obtain ⟨v, rfl, rv⟩ := rd.of1
    split at e
    · rename_i ys hs
      simp only [Option.map_eq_some_iff] at e
      obtain ⟨l, e1, rfl⟩ := e
      obtain ⟨a, vs, rfl, hq, rvs⟩ := list_rel rs rv hs
      cases bools_rel rvs e1
      exact cr_all R.calm pins s σ H _ us Q I r ⟨_, _, rfl, hq, done (.bl _)⟩
    · cases e
  · obtain ⟨v, rfl, rv⟩ := rd.of1
    split at e
    · rename_i ys hs
      simp only [Option.map_eq_some_iff] at e
      obtain ⟨l, e1, rfl⟩ := e
      obtain ⟨a, vs, rfl, hq, rvs⟩ := list_rel rs rv hs
      cases bools_rel rvs e1
      exact cr_any R.calm pins s σ H _ us Q I r ⟨_, _, rfl, hq, done (.bl _)⟩
    · cases e
  · obtain ⟨v, rfl, rv⟩ := rd.of1
    cases e; cases vr_int rv
    exact call_int1 pins s σ H _ us Q I r (.inl ⟨_, rfl, done (.int _)⟩)
  · obtain ⟨v, rfl, rv⟩ := rd.of1
    split at e
    · rename_i hz
      simp only [Option.map_eq_some_iff] at e
      obtain ⟨n, e1, rfl⟩ := e
      cases vr_str rv
      exact call_int_str pins s σ H _ us Q I r ⟨_, _, rfl, e1, hz, done (.int _)⟩
    · cases e
  · -- tuple
    obtain ⟨v, rfl, rv⟩ := rd.of1
    split at e
    · rename_i ys hs
      cases e
      obtain ⟨a, vs, rfl, hq, rvs⟩ := seq_rel rs rv hs
      refine call_tuple_of pins s σ H _ us Q I r ⟨_, vs, rfl, ?_⟩
      rcases hq with hq | hq
      · refine .inl ⟨hq, fun l hl => ?_⟩
        obtain ⟨r1, x1, m1⟩ := rs.made (o := .tup _) hl
        exact h _ _ _ r1 x1 (.tup (.inl (.inl m1)) (rvs.mono x1.same x1.pre))
      · refine .inr ⟨hq, ?_⟩
        cases rv with
        | tup h2 r2 => cases hs; exact done (.tup h2 r2)
        | lst h2 r2 =>
          exfalso
          exact sq_apart I (Same.seqL vw_le h2) hq
        | own h2 =>
          exfalso
          simp only [seqOf] at hs
          split at hs
          · rename_i ys' e2
            obtain ⟨vs', h3, _⟩ := rs.cells _ _ _ h2 e2
            exact sq_apart I (.inl (.inl h3)) hq
          · cases hs
        | obj => cases hs
    · cases e
  · -- list
    obtain ⟨v, rfl, rv⟩ := rd.of1
    split at e
    · rename_i ys hs
      cases e
      obtain ⟨a, vs, rfl, hq, rvs⟩ := seq_rel rs rv hs
      refine call_list_of pins s σ H _ us Q I r ⟨_, _, rfl, hq, fun l hl => ?_⟩
      obtain ⟨r1, x1, m1⟩ := rs.made (o := .lst _) hl
      exact h _ _ _ r1 x1 (.lst (.inl (.inl m1)) (rvs.mono x1.same x1.pre))
    · cases e
  · obtain ⟨v, rfl, rv⟩ := rd.of1
    split at e
    · rename_i hz
      cases e; cases vr_int rv
      exact call_str_int pins s σ H _ us Q I r ⟨_, rfl, hz, done (.str _)⟩
    · cases e
  · obtain ⟨v, rfl, rv⟩ := rd.of1
    cases e; cases vr_str rv
    exact SkE.call_str_str pins s σ H _ us Q I r ⟨_, rfl, done (.str _)⟩
  · obtain ⟨v, rfl, rv⟩ := rd.of1
    simp only [Option.map_eq_some_iff] at e
    obtain ⟨t, e1, rfl⟩ := e
    exact call_repr_data (ca := ca) R pins s σ H _ us Q I r ⟨ms, _, _, _, rfl, look_rel rs rv, e1, done (.str _)⟩
  · cases e
end
end MP
end

section
set_option linter.all false
set_option autoImplicit false
set_option maxHeartbeats 1000000
namespace MP
open PySem L2 PyProof.Rows

section
variable {P : Prog} {Φ : Calls} {ca : String → Option Addr} {k : Nat} {X : Cx} {W : WX}
theorem CtxOk.rm (C : CtxOk ca P k X W) : Room' X := ⟨C.calm, by have := C.room.un; omega, C.gd⟩

theorem s_bin {o : Op2} {a b : Expr} {ca' cb : CE} {pos : Pos} (ha : PE X a (tV P Φ ca X.K W ca')) (hb : PE X b (tV P Φ ca X.K W cb)) : PE X (.BinOp a (opOf o) b pos) (tV P Φ ca X.K W (.bin o ca' cb)) :=
  (pe_op (op_bin (ca := ca) o) ha hb).imp (s_two (f := fun x y st => opt (binF o x y) st) (fun ρ st => rfl) fun ex ms st H x y u v Q E rs r1 r2 h => ⟨ex, ms, st, x, y, E, rs, r1, r2, h⟩)
theorem s_cmp (C : CtxOk ca P k X W) {o : OpC} {a b : Expr} {ca' cb : CE} {pos : Pos} (ha : PE X a (tV P Φ ca X.K W ca')) (hb : PE X b (tV P Φ ca X.K W cb)) (hm : behindInMarks (cmpOf o) b = false) : PE X (.Compare a [cmpOf o] [b] pos) (tV P Φ ca X.K W (.cmp o ca' cb)) :=
  (pe_cmpR (op_cmp (ca := ca) C.rm.un o) ha hb hm).imp (s_two (f := fun x y st => opt ((cmpF st o x y).map .bl) st) (fun ρ st => rfl) fun ex ms st H x y u v Q E rs r1 r2 h => by
    obtain ⟨d, e, h⟩ := h.opt
    simp only [Option.map_eq_some_iff] at e
    obtain ⟨kk, e, rfl⟩ := e
    exact ⟨ex, ms, st, x, y, kk, rs, r1, r2, e, h.here rs (.bl kk)⟩)
theorem t_cmp (C : CtxOk ca P k X W) {o : OpC} {a b : Expr} {ca' cb : CE} {pos : Pos} (ha : PE X a (tV P Φ ca X.K W ca')) (hb : PE X b (tV P Φ ca X.K W cb)) (hm : behindInMarks (cmpOf o) b = false) : PT X (.Compare a [cmpOf o] [b] pos) (tT P Φ ca X.K W (.cmp o ca' cb)) := by
  refine (pt_cmpR (op_cmp (ca := ca) C.rm.un o) ha hb hm).imp fun σ H Q h => ?_
  obtain ⟨ex, ms, st, ρ, rs, sl, h⟩ := h
  simp only [evalM, fin] at h
  refine ⟨ex, ms, st, ρ, rs, sl, ?_⟩
  have h' : post ca X.K relB ex ms st H ((evalM P Φ ρ .v ca' st).bd fun x st => (evalM P Φ ρ .v cb st).bd fun y st => (opt ((cmpF st o x y).map .bl) st).bd fun x st => opt ((truD st x).map .bl) st) Q (WE' W σ) := by
    have e : ∀ {α β γ : Type} (m : R α) (f : α → Store → R β) (g : β → Store → R γ), (m.bd f).bd g = m.bd fun a st => (f a st).bd g := fun m f g => by cases m <;> rfl
    rw [e] at h
    simp only [e] at h
    exact h
  refine h'.bd fun d st1 ms1 H1 u rs1 x1 r1 h1 => ⟨ex, ms1, st1, ρ, rs1, sl.mono x1.same x1.pre, h1.bd fun d2 st2 ms2 H2 v rs2 x2 r2 h2 => ?_⟩
  cases e : cmpF st2 o d d2 with
  | none => rw [e] at h2; exact h2.elim
  | some kk =>
    rw [e] at h2
    exact ⟨ex, ms2, st2, d, d2, kk, rs2, r1.mono x2.same x2.pre, r2, e, kk, rfl, h2.here rs2 rfl⟩

def noStar : Expr → Bool
  | .Starred _ _ => false
  | _ => true
theorem star_each {e : Expr} {es : List Expr} {env : PySem.Env} (h : noStar e = true) : starEach (e :: es) env = (false, eval e env) :: starEach es env := by
  cases e <;> first | rfl | (simp [noStar] at h)
theorem star_any {env : PySem.Env} {pos : Pos} : ∀ {es : List Expr}, es.all noStar = true → (backTo pos (starEach es env)).any (·.1) = false
  | [], _ => rfl
  | e :: es, h => by
    rw [List.all_cons, Bool.and_eq_true] at h
    rw [star_each h.1]
    show ((false : Bool) || (backTo pos (starEach es env)).any (·.1)) = false
    rw [star_any h.2]; rfl
theorem s_nil : PA X [] (tAs P Φ ca X.K W []) := pa_nil.imp fun σ H Q h => by
  obtain ⟨ex, ms, st, ρ, rs, sl, h⟩ := h
  simp only [evalEs] at h
  exact h.here rs .nil
theorem s_cons {e : Expr} {es : List Expr} {c : CE} {cs : List CE} (h1 : PE X e (tV P Φ ca X.K W c)) (h2 : PA X es (tAs P Φ ca X.K W cs)) (hn : noStar e = true) : PA X (e :: es) (tAs P Φ ca X.K W (c :: cs)) :=
  (pa_cons h1 h2 (star_each hn)).imp fun σ H Q h => by
    obtain ⟨ex, ms, st, ρ, rs, sl, h⟩ := h
    simp only [evalEs] at h
    refine ⟨ex, ms, st, ρ, rs, sl, h.bd fun d st1 ms1 H1 u rs1 x1 r1 h1 => ⟨ex, ms1, st1, ρ, rs1, sl.mono x1.same x1.pre, h1.bd fun ds st2 ms2 H2 vs rs2 x2 r2 h2 => ?_⟩⟩
    exact h2.here rs2 (.cons (r1.mono x2.same x2.pre) r2)
theorem s_tup {es : List Expr} {cs : List CE} {j : Nat} {pos : Pos} (h1 : PA X es (tAs P Φ ca X.K W cs)) : PE X (.Tuple es j pos) (tV P Φ ca X.K W (.tup cs)) :=
  (pe_tup h1).imp fun σ H Q h => by
    obtain ⟨ex, ms, st, ρ, rs, sl, h⟩ := h
    simp only [evalM, fin_v] at h
    refine ⟨ex, ms, st, ρ, rs, sl, h.bd fun ds st1 ms1 H1 vs rs1 x1 r1 h1 => ?_⟩
    split at h1
    · rename_i hz
      refine ⟨by rw [LINE_eq, r1.length]; exact hz, fun p hp => ?_⟩
      obtain ⟨rs2, x2, m2⟩ := rs1.made (o := .tup vs) hp
      exact h1 _ _ _ rs2 x2 (.tup (.inl (.inl m2)) (r1.mono x2.same x2.pre))
    · exact h1.elim
/-- a new list, fast or not -/
theorem mk_lst {ex ms : List Addr} {st : Store} {H : Hp} {m : Bool} {ds : List D} {vs : List V} {Q : VK} {E : XK} (rs : RS ca X.K ex ms st H) (r : VRels ca X.K (vw ex ms st H) ms vs ds) (h : post ca X.K (VRel ca X.K) ex ms st H (mkLst m ds st) Q E) :
    vs.length ≤ sizeLine ∧ ∀ p, H p = none → Q (.ref p) (upd H p (.lst vs)) := by
  unfold mkLst at h
  split at h
  · rename_i hz
    refine ⟨by rw [LINE_eq, r.length]; exact hz, fun p hp => ?_⟩
    split at h
    · obtain ⟨rs2, x2⟩ := rs.push (o := .lst vs) (c := .lst ds) hp rfl ⟨vs, upd_same, r⟩
      refine h _ _ _ rs2 x2 (.own ?_)
      rw [← rs.len, List.getElem?_append_right (Nat.le_refl _)]; simp
    · obtain ⟨rs2, x2, m2⟩ := rs.made (o := .lst vs) hp
      exact h _ _ _ rs2 x2 (.lst (.inl (.inl m2)) (r.mono x2.same x2.pre))
  · exact h.elim
theorem s_lst {es : List Expr} {cs : List CE} {m : Bool} {pos : Pos} (h1 : PA X es (tAs P Φ ca X.K W cs)) : PE X (.List es pos) (tV P Φ ca X.K W (.lst m cs)) :=
  (pe_lst h1).imp fun σ H Q h => by
    obtain ⟨ex, ms, st, ρ, rs, sl, h⟩ := h
    simp only [evalM, fin_v] at h
    exact ⟨ex, ms, st, ρ, rs, sl, h.bd fun ds st1 ms1 H1 vs rs1 x1 r1 h1 => mk_lst rs1 r1 h1⟩

def noSlice : Expr → Bool
  | .Slice _ _ _ _ => false
  | _ => true
theorem plain_ix {e : Expr} (h : noSlice e = true) : ∀ o i, subscripted e false o i = operate [o, i] (getItem o i) := by
  cases e <;> first | (intro o i; rfl) | (simp [noSlice] at h)
theorem atI_eq {α : Type} (xs : List α) (i : Int) : atI xs i = atF xs i := rfl
theorem rels_at {K : PySem.W.Frag} {F : Hp} {ms : List Addr} {vs : List V} {ds : List D} {i : Int} {d : D} (r : VRels ca K F ms vs ds) (e : atF ds i = some d) : ∃ v, atI vs i = some v ∧ VRel ca K F ms v d := by
  unfold atF at e
  unfold atI
  rw [r.length]
  have e' : (ixN ds.length i).bind (fun j => ds[j]?) = some d := e
  cases h : ixN ds.length i with
  | none => rw [h] at e'; cases e'
  | some j =>
    rw [h] at e'
    exact r.getD e'
theorem s_item (C : CtxOk ca P k X W) {a b : Expr} {ca' cb : CE} {pos : Pos} (ha : PE X a (tV P Φ ca X.K W ca')) (hb : PE X b (tV P Φ ca X.K W cb)) (hs : noSlice b = true) : PE X (.Subscript a b pos) (tV P Φ ca X.K W (.item ca' cb)) := by
  refine ((pe_ix ix_seq ha hb (plain_ix hs)).or (pe_dget (by have := C.rm.un; omega) ha hb (plain_ix hs))).imp fun σ H Q h => ?_
  obtain ⟨ex, ms, st, ρ, rs, sl, h⟩ := h
  have h' : post ca X.K (VRel ca X.K) ex ms st H ((evalM P Φ ρ .v ca' st).bd fun x st => (evalM P Φ ρ .v cb st).bd fun y st => opt (itemF st x y) st) Q (WE' W σ) := h
  -- the choice hangs on what the first gives: decide by the evaluation
  by_cases hd : ∃ x st1 y st2 n kvs, evalM P Φ ρ .v ca' st = .ok x st1 ∧ evalM P Φ ρ .v cb st1 = .ok y st2 ∧ x = .own n ∧ st2[n]? = some (.dct kvs)
  · right
    obtain ⟨x, st1, y, st2, n, kvs, e1, e2, rfl, e3⟩ := hd
    rw [e1] at h'
    simp only [R.bd_ok, e2] at h'
    refine ⟨ex, ms, st, ρ, rs, sl, ?_⟩
    show post ca X.K _ ex ms st H (evalM P Φ ρ .v ca' st) _ _
    rw [e1]
    intro ms1 H1 u rs1 x1 r1
    refine ⟨ex, ms1, st1, ρ, rs1, sl.mono x1.same x1.pre, ?_⟩
    show post ca X.K _ ex ms1 st1 H1 (evalM P Φ ρ .v cb st1) _ _
    rw [e2]
    intro ms2 H2 v rs2 x2 r2
    have r1' := r1.mono x2.same x2.pre
    have h2 := post.ext (x1.trans x2) h'
    simp only [itemF, e3] at h2
    obtain ⟨d, e4, h3⟩ := h2.opt
    simp only [Option.bind_eq_some_iff] at e4
    obtain ⟨key, e5, e6⟩ := e4
    cases r1' with
    | own hq =>
      obtain ⟨kv, q1, q2⟩ := rs2.cells _ _ _ hq e3
      cases key_rel r2 e5
      obtain ⟨vv, g1, g2⟩ := kv_get q2 e6
      exact ⟨_, vv, rfl, .inl ⟨kv, key, .inl q1, rfl, g1.symm⟩, h3.here rs2 g2⟩
  · left
    refine ⟨ex, ms, st, ρ, rs, sl, ?_⟩
    show post ca X.K _ ex ms st H (evalM P Φ ρ .v ca' st) _ _
    cases e1 : evalM P Φ ρ .v ca' st with
    | stuck => rw [e1] at h'; exact h'
    | exn c vs st' => rw [e1] at h'; exact h'
    | ok x st1 =>
      rw [e1] at h'
      simp only [R.bd_ok] at h'
      intro ms1 H1 u rs1 x1 r1
      refine ⟨ex, ms1, st1, ρ, rs1, sl.mono x1.same x1.pre, ?_⟩
      show post ca X.K _ ex ms1 st1 H1 (evalM P Φ ρ .v cb st1) _ _
      cases e2 : evalM P Φ ρ .v cb st1 with
      | stuck => rw [e2] at h'; exact h'
      | exn c vs st' => rw [e2] at h'; exact post.ext x1 h'
      | ok y st2 =>
        rw [e2] at h'
        simp only [R.bd_ok] at h'
        intro ms2 H2 v rs2 x2 r2
        have r1' := r1.mono x2.same x2.pre
        have h2 := post.ext (x1.trans x2) h'
        obtain ⟨d, e4, h3⟩ := h2.opt
        unfold itemF at e4
        split at e4
        · cases vr_str r1'; cases vr_int r2
          split at e4
          · rename_i hz
            simp only [Option.map_eq_some_iff] at e4
            obtain ⟨c, e5, rfl⟩ := e4
            exact .inr (.inr ⟨_, _, _, rfl, rfl, by rw [LINE_eq]; exact hz, e5, h3.here rs2 (.str _)⟩)
          · cases e4
        · cases vr_int r2
          cases r1' with
          | tup q1 q2 =>
            obtain ⟨v, g1, g2⟩ := rels_at q2 e4
            exact .inr (.inl ⟨_, _, _, _, rfl, rfl, Same.seqT vw_le q1, g1, h3.here rs2 g2⟩)
        · cases vr_int r2
          cases r1' with
          | lst q1 q2 =>
            obtain ⟨v, g1, g2⟩ := rels_at q2 e4
            exact .inl ⟨_, _, _, _, rfl, rfl, Same.seqL vw_le q1, g1, h3.here rs2 g2⟩
        · split at e4
          · rename_i xs e5
            split at e4
            · cases vr_int r2
              cases r1' with
              | own hq =>
                obtain ⟨vs, q1, q2⟩ := rs2.cells _ _ _ hq e5
                obtain ⟨v, g1, g2⟩ := rels_at q2 e4
                exact .inl ⟨_, _, _, _, rfl, rfl, .inl (.inl q1), g1, h3.here rs2 g2⟩
            · cases e4
          · rename_i kvs e5
            exact absurd ⟨_, st1, y, st2, _, kvs, e1, e2, rfl, e5⟩ hd
          · cases e4
        · cases e4
theorem s_none : PO X none (tOp' P Φ ca X.K W none) := po_none.imp fun σ H Q h => by
  obtain ⟨ex, ms, st, ρ, rs, sl, h⟩ := h
  simp only [evalO] at h
  exact h ms H none rs Ext.refl rfl
theorem s_some {e : Expr} {c : CE} (he : PE X e (tV P Φ ca X.K W c)) : PO X (some e) (tOp' P Φ ca X.K W (some c)) := (po_some he).imp fun σ H Q h => by
  obtain ⟨ex, ms, st, ρ, rs, sl, h⟩ := h
  simp only [evalO] at h
  refine ⟨ex, ms, st, ρ, rs, sl, h.bd fun d st1 ms1 H1 u rs1 x1 r1 h1 => ?_⟩
  obtain ⟨o, e1, h1⟩ := h1.opt
  unfold intK at e1
  split at e1
  · cases e1; cases vr_int r1
    exact ⟨_, rfl, h1 ms1 H1 _ rs1 Ext.refl rfl⟩
  · cases e1
theorem rels_cut {K : PySem.W.Frag} {F : Hp} {ms : List Addr} {vs : List V} {ds : List D} (lo hi : Option Int) (r : VRels ca K F ms vs ds) : VRels ca K F ms (cutV vs lo hi) (cutF ds lo hi) := by
  unfold cutV cutF
  rw [r.length]
  exact (r.drop _).take _
theorem cut_all {ds : List D} {lo hi : Option Int} (h : HT.sIx ds.length 0 lo = 0 ∧ HT.sIx ds.length ds.length hi = ds.length) : cutF ds lo hi = ds := by
  have h1 : sixF ds.length 0 lo = 0 := h.1
  have h2 : sixF ds.length ds.length hi = ds.length := h.2
  unfold cutF
  rw [h1, h2]; simp
theorem s_sl {a : Expr} {lo hi : Option Expr} {c : CE} {cl ch : Option CE} {p2 pos : Pos} (ha : PE X a (tV P Φ ca X.K W c)) (hl : PO X lo (tOp' P Φ ca X.K W cl)) (hh : PO X hi (tOp' P Φ ca X.K W ch)) :
    PE X (.Subscript a (.Slice lo hi none p2) pos) (tV P Φ ca X.K W (.sl c cl ch)) := by
  refine (pe_slice (sl_tupA.or (sl_list.or sl_str)) ha hl hh).imp fun σ H Q h => ?_
  obtain ⟨ex, ms, st, ρ, rs, sl, h⟩ := h
  simp only [evalM, fin_v] at h
  refine ⟨ex, ms, st, ρ, rs, sl, h.bd fun d st1 ms1 H1 u rs1 x1 r1 h1 => ⟨ex, ms1, st1, ρ, rs1, sl.mono x1.same x1.pre, h1.bd fun l st2 ms2 H2 l' rs2 x2 e2 h2 =>
    ⟨ex, ms2, st2, ρ, rs2, (sl.mono x1.same x1.pre).mono x2.same x2.pre, h2.bd fun u st3 ms3 H3 u' rs3 x3 e3 h3 => ?_⟩⟩⟩
  cases e2; cases e3
  have r3 := (r1.mono x2.same x2.pre).mono x3.same x3.pre
  obtain ⟨d', e4, h4⟩ := h3.opt
  unfold slF at e4
  split at e4
  · cases e4
    have r3' := r3
    cases r3 with
    | tup q1 q2 =>
      refine .inl ⟨_, _, rfl, Same.seqT vw_le q1, fun z => ?_, fun _ p hp => ?_⟩
      · rw [q2.length] at z
        rw [cut_all z] at h4
        exact h4.here rs3 r3'
      · obtain ⟨rs5, x5, m5⟩ := rs3.made (o := .tup _) hp
        exact h4 _ _ _ rs5 x5 (.tup (.inl (.inl m5)) ((rels_cut _ _ q2).mono x5.same x5.pre))
  · cases e4
    cases r3 with
    | lst q1 q2 =>
      refine .inr (.inl ⟨_, _, rfl, Same.seqL vw_le q1, fun p hp => ?_⟩)
      obtain ⟨rs5, x5, m5⟩ := rs3.made (o := .lst _) hp
      exact h4 _ _ _ rs5 x5 (.lst (.inl (.inl m5)) ((rels_cut _ _ q2).mono x5.same x5.pre))
  · split at e4
    · rename_i xs e5
      cases e4
      cases r3 with
      | own hq =>
        obtain ⟨vs, q1, q2⟩ := rs3.cells _ _ _ hq e5
        refine .inr (.inl ⟨_, _, rfl, .inl (.inl q1), fun p hp => ?_⟩)
        obtain ⟨rs5, x5, m5⟩ := rs3.made (o := .lst _) hp
        exact h4 _ _ _ rs5 x5 (.lst (.inl (.inl m5)) ((rels_cut _ _ q2).mono x5.same x5.pre))
    · cases e4
  · split at e4
    · rename_i hz
      cases e4; cases vr_str r3
      exact .inr (.inr ⟨_, rfl, by rw [LINE_eq]; exact hz, h4.here rs3 (.str _)⟩)
    · cases e4
  · cases e4
end
end MP
end

section
set_option linter.all false
set_option autoImplicit false
set_option maxHeartbeats 1000000
namespace MP
open PySem L2 PyProof.Rows

theorem Around.guards_deeper (A : Around) (env : PySem.Env) : (A.deeper env).guards = A.guards := rfl

/-- a def keeps its promise wherever no repr is running -/
structure FnG (prog : Program) (w : World) (K : PySem.W.Frag) (mg : Str → Option Value) (base : Heap) (k : Nat) (f : Addr) (fd : FuncData) (ps : List Str) (sp : Sp) : Prop where
  len : ∀ vs H Q E, sp vs H Q E → vs.length = ps.length
  run : ∀ (A : Around) (outer : List PySem.Env) (s : Shared) (H : Hp) (args : Args) (us : List Value) (vs : List V) (Q : VK) (E : XK), A.guards = some [] → Room k A → Env0 prog w K mg base A outer s H →
    BindsTo s fd args (ps.zip us) → Vals vs us → sp vs H Q E → codeAny (model prog w) A (.call (.ref f) args) (CR (L2.CX prog w) outer prog w H s Q E) s
theorem FnG.mono {prog : Program} {w : World} {K : PySem.W.Frag} {mg : Str → Option Value} {base : Heap} {j k : Nat} {f : Addr} {fd : FuncData} {ps : List Str} {sp : Sp} (F : FnG prog w K mg base j f fd ps sp) (h : j ≤ k) : FnG prog w K mg base k f fd ps sp :=
  ⟨F.len, fun A outer s H args us vs Q E hg hr => F.run A outer s H args us vs Q E hg (hr.mono h)⟩

/-- the promise of a def by its code -/
def spI (ca : String → Option Addr) (K : PySem.W.Frag) (Φ : Calls) (f : String) : Sp := fun vs H Q E =>
  ∃ (ex ms : List Addr) (st : Store) (ds : List D), RS ca K ex ms st H ∧ VRels ca K (vw ex ms st H) ms vs ds ∧ post ca K (VRel ca K) ex ms st H (Φ f ds st) Q E

/-- a call with keywords binds so -/
def KwOk (fd : FuncData) (ps : List Str) (p : Pat) : Prop := ∀ (s : Shared) (us ws : List Value), us.length = p.1 → ws.length = p.2.1.length → BindsTo s fd ⟨us, (p.2.1.map nmS).zip ws⟩ (ps.zip (us ++ permW p.2.2 ws))
structure FnAt (P : Prog) (ca : String → Option Addr) (prog : Program) (w : World) (K : PySem.W.Frag) (mg : Str → Option Value) (base : Heap) (Φ : Calls) (k : Nat) (f : String) (fa : Addr) : Prop where
  ex : ∃ (fd : FuncData) (ps : List Str), (Binds K fd ps [] ∧ ∀ p, p ∈ P.kw f → KwOk fd ps p) ∧ FnG prog w K mg base k fa fd ps (spI ca K Φ f)

def isTys : List String := ["NoneType", "bool", "int", "str", "list", "tuple", "dict"]
/-- the names of the built-in things that the programs use -/
def bltNames : List String := ["len", "sum", "min", "max", "abs", "all", "any", "int", "bool", "tuple", "list", "sorted", "str", "repr", "divmod", "set", "dict", "range", "enumerate", "zip", "isinstance"]
structure GOk (ca : String → Option Addr) (P : Prog) (prog : Program) (w : World) (K : PySem.W.Frag) (mg : Str → Option Value) (base : Heap) (Φ : Calls) (k : Nat) : Prop where
  fns : ∀ f, f ∈ P.glob → ∃ fa, mg (nmS f) = some (.ref fa) ∧ PySem.W.keepIn K (.ref fa) = true ∧ FnAt P ca prog w K mg base Φ k f fa
  cls : ∀ c kc, P.cl c = some kc → ∃ C, ca c = some C ∧ mg (nmS c) = some (.ref C) ∧ Cls K C ∧
    (∀ m f, kc.meths.lookup m = some f → ∃ fa, L2.Meth K C (nmS m) fa ∧ FnAt P ca prog w K mg base Φ k f fa) ∧
    (∀ f, kc.meths.lookup "__init__" = some f → ∃ fa, Mk K C fa ∧ FnAt P ca prog w K mg base Φ k f fa) ∧
    (∀ p g, kc.props.lookup p = some g → ∃ pa ga, PropOf K C (nmS p) pa ga ∧ FnAt P ca prog w K mg base Φ k g ga) ∧
    ∀ f, kc.flds.contains f = true → NoAttr K C (nmS f)
  isF : ∀ c kc C, P.cl c = some kc → ca c = some C → PySem.W.findIn K (.ref C) "__class__" = some (some (.builtin "object.__class__")) ∧ PySem.W.mroIn K C (.type "object") = some true ∧
    ∀ ty, ty ∈ isTys → PySem.W.kitOne K (.type ty) (.ref C) = some false ∧ PySem.W.kitOne K (.ref C) (.type ty) = some false
  isG : (∃ c, (P.cl c).isSome = true) → PySem.W.specialIn K (.builtin "object.__class__") "__get__" = some (some (.builtin "getset_descriptor.__get__")) ∧ PySem.W.takesIn K (.builtin "object.__class__") = some true
  isE : ∀ c kc C, P.cl c = some kc → ca c = some C → (kc.flags.contains "eq" = true → (∀ ty, ty ∈ isTys → PySem.W.notFirst K C (.type ty) = true) ∧ ∀ c' C', (P.cl c').isSome = true → ca c' = some C' → PySem.W.notFirst K C (.ref C') = true) ∧
    (kc.flags.contains "ne" = true → PySem.W.findIn K (.ref C) "__ne__" = some (some (.builtin "object.__ne__"))) ∧ (kc.flags.contains "tru" = true → PySem.W.findIn K (.ref C) "__bool__" = some none ∧ PySem.W.findIn K (.ref C) "__len__" = some none)
  isC : ∀ c c' C C', (P.cl c).isSome = true → (P.cl c').isSome = true → ca c = some C → ca c' = some C' → PySem.W.kitOne K (.ref C) (.ref C') = some (decide (c = c'))
  blt : ∀ x, x ∈ bltNames → mg (nmS x) = none

theorem nmS_inj {a b : String} (h : nmS a = nmS b) : a = b := by
  unfold nmS at h
  rw [Str.ofString_eq_toList, Str.ofString_eq_toList] at h
  have h1 : (a.toList.map Char.toNat).toArray = (b.toList.map Char.toNat).toArray := congrArg Str.cps h
  have h2 : a.toList.map Char.toNat = b.toList.map Char.toNat := by simpa using h1
  have inj : ∀ x y : Char, x.toNat = y.toNat → x = y := fun x y e => Char.ext (UInt32.toNat_inj.mp e)
  have h3 : a.toList = b.toList := by
    revert h2
    generalize a.toList = l
    generalize b.toList = l'
    induction l generalizing l' with
    | nil => cases l' <;> simp
    | cons x xs ih => cases l' with
      | nil => simp
      | cons y ys =>
        simp only [List.map_cons, List.cons.injEq]
        exact fun ⟨p, q⟩ => ⟨inj x y p, ih ys q⟩
  exact String.ext_iff.mpr h3

section
variable {P : Prog} {Φ : Calls} {ca : String → Option Addr} {k : Nat} {X : Cx} {W : WX}
/-- the callee runs -/
theorem run_at (C : CtxOk ca P k X W) {f : String} {fa : Addr} (F : FnAt P ca X.prog X.w X.K X.mg X.base Φ k f fa) {pins : List (Addr × Obj)} {σ : L2.St} {H : Hp} {s : Shared} {Q : VK} {us : List Value} {vs : List V} {ex ms : List Addr} {st : Store} {ds : List D}
    (I : Inv X pins σ H s) (r : Vals vs us) (rs : RS ca X.K ex ms st H) (rv : VRels ca X.K (vw ex ms st H) ms vs ds) (h : post ca X.K (VRel ca X.K) ex ms st H (Φ f ds st) Q (WE' W σ)) : wpAny (model X.prog X.w) X.A (call (.ref fa) us) (EP X pins σ Q) X.xe s := by
  obtain ⟨fd, ps, ⟨hb, hkw⟩, G⟩ := F.ex
  have sp : spI ca X.K Φ f vs H Q (WE' W σ) := ⟨ex, ms, st, ds, rs, rv, h⟩
  have hl : (us ++ []).length = ps.length := by rw [List.append_nil, ← r.length]; exact G.len _ _ _ _ sp
  have bd := hb s us I.kIn hl
  rw [List.append_nil] at bd
  refine wpAny_call (codeAny_mono (G.run X.A X.stack s H ⟨us, []⟩ us vs Q (WE' W σ) C.gd (C.room.mono (Nat.le_add_right _ _)) I.env0 bd r sp) fun res s' hq => ?_)
  cases res with
  | error e => exact passAt C.tk σ pins H s e s' I hq
  | ok fl =>
    cases fl with
    | ret u => exact I.after hq
    | next => exact hq.elim
    | brk => exact hq.elim
    | cont => exact hq.elim
theorem s_call0 (C : CtxOk ca P k X W) (G : GOk ca P X.prog X.w X.K X.mg X.base Φ k) {f : String} {p pos : Pos} (hg : L2.Gl X (nmS f)) (hd : (nmS f == ("__debug__" : Str)) = false) :
    PE X (.Call (.Name (nmS f) p) [] [] pos) (tV P Φ ca X.K W (.call f [])) := by
  by_cases hf : P.glob.contains f = true
  · obtain ⟨fa, hm, hk, F⟩ := G.fns f (List.contains_iff_mem.mp hf)
    refine ⟨fun pins s σ H Q I h => wpAny_Call_Name_kw (ld_glob I hg hm ?_ hd)⟩
    obtain ⟨ex, ms, st, ρ, rs, sl, h⟩ := h
    simp only [evalM, hf, if_true, fin_v, evalEs, R.bd_ok] at h
    exact PySem.W.callWith_K0 I.kIn hk (run_at (us := []) C F I .nil rs .nil h)
  · refine PE.no.imp fun σ H Q h => ?_
    obtain ⟨ex, ms, st, ρ, rs, sl, h⟩ := h
    simp only [evalM, if_neg hf] at h
    exact h
theorem s_call (C : CtxOk ca P k X W) (G : GOk ca P X.prog X.w X.K X.mg X.base Φ k) {f : String} {e : Expr} {es : List Expr} {cs : List CE} {p pos : Pos} (hg : L2.Gl X (nmS f)) (hd : (nmS f == ("__debug__" : Str)) = false) (ha : PA X (e :: es) (tAs P Φ ca X.K W cs)) (hs : (e :: es).all noStar = true) :
    PE X (.Call (.Name (nmS f) p) (e :: es) [] pos) (tV P Φ ca X.K W (.call f cs)) := by
  by_cases hf : P.glob.contains f = true
  · obtain ⟨fa, hm, hk, F⟩ := G.fns f (List.contains_iff_mem.mp hf)
    refine ⟨fun pins s σ H Q I h => wpAny_Call_Name_kw (ld_glob I hg hm ?_ hd)⟩
    obtain ⟨ex, ms, st, ρ, rs, sl, h⟩ := h
    simp only [evalM, hf, if_true, fin_v] at h
    have ha' : tAs P Φ ca X.K W cs σ H fun vs H1 => ∃ (ex ms : List Addr) (st : Store) (ds : List D), RS ca X.K ex ms st H1 ∧ VRels ca X.K (vw ex ms st H1) ms vs ds ∧ post ca X.K (VRel ca X.K) ex ms st H1 (Φ f ds st) Q (WE' W σ) :=
      ⟨ex, ms, st, ρ, rs, sl, h.bd fun ds st1 ms1 H1 vs rs1 x1 r1 h1 => ⟨ex, ms1, st1, ds, rs1, r1, h1⟩⟩
    rw [List.all_cons, Bool.and_eq_true] at hs
    refine PySem.W.callWith_K (h₀ := X.base) I.ok.mod.kin hk (thn (ha.run pos pins s σ H _ I ha') fun us s1 q => ?_) (star_each hs.1) (star_any hs.2)
    obtain ⟨vs, H1, I1, r, ex, ms, st, ds, rs, rv, h⟩ := q
    exact ⟨I1.kIn, run_at C F I1 r rs rv h⟩
  · refine PE.no.imp fun σ H Q h => ?_
    obtain ⟨ex, ms, st, ρ, rs, sl, h⟩ := h
    simp only [evalM, if_neg hf] at h
    exact h

def primN : Prim → String
  | .len => "len" | .sum => "sum" | .min => "min" | .max => "max" | .abs => "abs" | .all => "all" | .any => "any" | .int => "int" | .bool => "bool" | .tuple => "tuple" | .list => "list"
  | .sorted => "sorted" | .sortedR => "sorted" | .str => "str" | .repr => "repr" | .divmod => "divmod" | .setlen => "set" | .dictOf => "dict" | .range => "range"
theorem prim_boot (p : Prim) : bootBuiltins (nmS (primN p)) = some (primV p) := by
  cases p <;> decide +kernel
theorem s_prim (C : CtxOk ca P k X W) {p : Prim} {e : Expr} {es : List Expr} {cs : List CE} {pp pos : Pos} (hg : L2.Gl X (nmS (primN p))) (hm : X.mg (nmS (primN p)) = none) (ha : PA X (e :: es) (tAs P Φ ca X.K W cs)) (hs : (e :: es).all noStar = true) :
    PE X (.Call (.Name (nmS (primN p)) pp) (e :: es) [] pos) (tV P Φ ca X.K W (.prim p cs)) := by
  have hn : nmS (primN p) ≠ "__name__" := by cases p <;> decide +kernel
  have hd : (nmS (primN p) == ("__debug__" : Str)) = false := by cases p <;> decide +kernel
  rw [List.all_cons, Bool.and_eq_true] at hs
  have key : PE X (.Call (.Name (nmS (primN p)) pp) (e :: es) [] pos) (tCB (rP ca X.K p) (tAs P Φ ca X.K W cs)) := by
    have hv := prim_boot p
    have hc := call_prim (ca := ca) C.rm p
    revert hv hc
    cases hpv : primV p with
    | builtin id => exact fun hv hc => pe_callB hc hg hm hv ha hn hd (star_each hs.1) (star_any hs.2)
    | type T => exact fun hv hc => pe_callTy hc hg hm hv ha hn hd (star_each hs.1) (star_any hs.2)
    | _ => cases p <;> simp [primV] at hpv
  refine key.imp fun σ H Q h => ?_
  obtain ⟨ex, ms, st, ρ, rs, sl, h⟩ := h
  simp only [evalM, fin_v] at h
  exact ⟨ex, ms, st, ρ, rs, sl, h.bd fun ds st1 ms1 H1 vs rs1 x1 r1 h1 => ⟨ex, ms1, st1, ds, _, rs1, r1, h1⟩⟩
end
end MP
end

section
set_option linter.all false
set_option autoImplicit false
set_option maxHeartbeats 1000000
namespace MP
open PySem L2 PyProof.Rows

section
variable {ca : String → Option Addr} {K : PySem.W.Frag} {ex ms : List Addr} {st : Store} {H : Hp}
theorem kill_dead {n : Nat} {a : Addr} (rs : RS ca K ex ms st H) (ha : ms[n]? = some a) : liveB ms (st.set n .dead) a = false := by
  cases h : liveB ms (st.set n .dead) a with
  | false => rfl
  | true =>
    obtain ⟨i, c, h1, h2, h3⟩ := liveB_iff.mp h
    have := nodup_get rs.nd ha h1
    subst this
    have hl : n < st.length := by
      rcases Nat.lt_or_ge n st.length with q | q
      · exact q
      · rw [List.getElem?_eq_none (by rw [List.length_set]; exact q)] at h2; cases h2
    rw [List.getElem?_set_self hl] at h2
    cases h2; cases h3
/-- a thing made fast -/
theorem freeze_ok {v : V} {d e : D} {st' : Store} (rs : RS ca K ex ms st H) (r : VRel ca K (vw ex ms st H) ms v d) (h : freeze d st = .ok e st') :
    RS ca K ex ms st' H ∧ Ext ex ms st H ms st' H ∧ VRel ca K (vw ex ms st' H) ms v e := by
  unfold freeze at h
  split at h
  · rename_i n
    cases r with
    | own hn =>
      split at h
      · rename_i xs e1
        cases h
        obtain ⟨rs2, x2⟩ := rs.kill hn
        obtain ⟨vs, q1, q2⟩ := rs.cells _ _ _ hn e1
        exact ⟨rs2, x2, .lst (.inl (.inl (vw_some.mpr ⟨fun z => rs.exm _ z (List.mem_of_getElem? hn), kill_dead rs hn, q1⟩))) (q2.mono x2.same x2.pre)⟩
      · rename_i c fs e1
        cases h
        obtain ⟨rs2, x2⟩ := rs.kill hn
        obtain ⟨C, dx, vs, q0, q1, q2, q3⟩ := rs.cells _ _ _ hn e1
        refine ⟨rs2, x2, .obj q0 (vw_some.mpr ⟨fun z => rs.exm _ z (List.mem_of_getElem? hn), kill_dead rs hn, q1⟩) ?_ (q3.mono x2.same x2.pre)⟩
        rw [q2, List.map_map]; rfl
      · cases h
  · cases h
    exact ⟨rs, Ext.refl, r⟩
theorem freeze_no {d : D} {st : Store} {c : String} {vs : List D} {st' : Store} (h : freeze d st = .exn c vs st') : False := by
  unfold freeze at h
  split at h
  · split at h <;> cases h
  · cases h

mutual
theorem VRel.cut {F : Hp} {n : Nat} : ∀ {v : V} {d : D}, VRel ca K F ms v d → d.clean n = true → VRel ca K F (ms.take n) v d
  | _, _, .non, _ => .non
  | _, _, .bl b, _ => .bl b
  | _, _, .int i, _ => .int i
  | _, _, .str s, _ => .str s
  | _, _, .tup h r, c => .tup h (VRels.cutR r c)
  | _, _, .lst h r, c => .lst h (VRels.cutR r c)
  | _, _, .obj hc h hn r, c => .obj hc h hn (VRels.cutR r c)
  | _, _, .own (n := m) h, c => .own (by
      have hm : m < n := of_decide_eq_true c
      rw [List.getElem?_take_of_lt hm]; exact h)
theorem VRels.cutR {F : Hp} {n : Nat} : ∀ {v : List V} {d : List D}, VRels ca K F ms v d → D.cleans n d = true → VRels ca K F (ms.take n) v d
  | _, _, .nil, _ => .nil
  | _, _, .cons h r, c => by
    simp only [D.cleans, Bool.and_eq_true] at c
    exact .cons (VRel.cut h c.1) (VRels.cutR r c.2)
end
theorem CRel.cut {F : Hp} {a : Addr} {n : Nat} : ∀ {c : Cell}, CRel ca K F ms H a c → c.clean n = true → CRel ca K F (ms.take n) H a c
  | .lst _, ⟨vs, h, r⟩, c => ⟨vs, h, r.cutR c⟩
  | .dct ds, ⟨kvs, h, q⟩, c => ⟨kvs, h, by
      have c' : D.cleans n (ds.map (·.2)) = true := c
      clear c h
      induction q with
      | nil => exact .nil
      | cons z t ih =>
        simp only [List.map_cons, D.cleans, Bool.and_eq_true] at c'
        exact .cons ⟨z.1, z.2.cut c'.1⟩ (ih c'.2)⟩
  | .ins _ _, ⟨C, dx, vs, hc, h, q, r⟩, c => ⟨C, dx, vs, hc, h, q, r.cutR c⟩
  | .dead, _, _ => True.intro
theorem liveB_take {n : Nat} {a : Addr} (h : liveB (ms.take n) (st.take n) a = true) : liveB ms st a = true := by
  obtain ⟨i, c, h1, h2, h3⟩ := liveB_iff.mp h
  have hi : i < n := by
    rcases Nat.lt_or_ge i n with q | q
    · exact q
    · rw [List.getElem?_eq_none (by rw [List.length_take]; omega)] at h1; cases h1
  rw [List.getElem?_take_of_lt hi] at h1 h2
  exact liveB_iff.mpr ⟨i, c, h1, h2, h3⟩
/-- what nothing reaches is forgotten -/
theorem trim_ok {ms0 : List Addr} {st0 : Store} {H0 : Hp} {v : V} {d : D} (rs : RS ca K ex ms st H) (x : Ext ex ms0 st0 H0 ms st H) (hl : ms0.length = st0.length) (r : VRel ca K (vw ex ms st H) ms v d) :
    ∃ ms', RS ca K ex ms' (trim st0.length d st) H ∧ Ext ex ms0 st0 H0 ms' (trim st0.length d st) H ∧ VRel ca K (vw ex ms' (trim st0.length d st) H) ms' v d := by
  unfold trim
  split
  · rename_i hc
    simp only [Bool.and_eq_true, List.all_eq_true] at hc
    have sm : Same (vw ex ms st H) (vw ex (ms.take st0.length) (st.take st0.length) H) := fun a o q => by
      obtain ⟨q1, q2, q3⟩ := vw_some.mp q
      refine vw_some.mpr ⟨q1, ?_, q3⟩
      cases z : liveB (ms.take st0.length) (st.take st0.length) a with
      | false => rfl
      | true => rw [liveB_take z] at q2; cases q2
    have pre : ms0 <+: ms.take st0.length := by
      obtain ⟨t, e⟩ := x.pre
      rw [← e, ← hl, List.take_left]
      exact List.prefix_rfl
    refine ⟨ms.take st0.length, ⟨by rw [List.length_take, List.length_take, rs.len], rs.nd.sublist (List.take_sublist _ _), fun a ha hm => rs.exm a ha (List.mem_of_mem_take hm), rs.exH, fun a ha => rs.there a (List.mem_of_mem_take ha), fun i a c h1 h2 => ?_⟩,
      ⟨pre, x.same.trans sm, x.exs⟩, (r.mono sm List.prefix_rfl).cut hc.1⟩
    have hi : i < st0.length := by
      rcases Nat.lt_or_ge i st0.length with q | q
      · exact q
      · rw [List.getElem?_eq_none (by rw [List.length_take]; omega)] at h1; cases h1
    have hm := List.mem_of_getElem? h2
    rw [List.getElem?_take_of_lt hi] at h1 h2
    exact ((rs.cells i a c h1 h2).mono sm List.prefix_rfl rfl).cut (hc.2 c hm)
  · exact ⟨ms, rs, x, r⟩

def FR (ca : String → Option Addr) (K : PySem.W.Frag) (F : Hp) (ms : List Addr) (vs : List (Str × V)) (fs : List (String × D)) : Prop :=
  vs.map (·.1) = fs.map (fun p => nmS p.1) ∧ VRels ca K F ms (vs.map (·.2)) (fs.map (·.2))
theorem FR.look {F : Hp} {vs : List (Str × V)} {fs : List (String × D)} (f : String) (h : FR ca K F ms vs fs) : match vs.lookup (nmS f), fs.lookup f with
    | some v, some d => VRel ca K F ms v d
    | none, none => True
    | _, _ => False := by
  obtain ⟨h1, h2⟩ := h
  induction vs generalizing fs with
  | nil => cases fs with
    | nil => exact True.intro
    | cons _ _ => simp at h1
  | cons p vs ih => cases fs with
    | nil => simp at h1
    | cons q fs =>
      simp only [List.map_cons, List.cons.injEq] at h1
      simp only [List.map_cons] at h2
      cases h2 with
      | cons a b =>
        by_cases e : f = q.1
        · have e1 : (nmS f == p.1) = true := by rw [h1.1, e]; exact beq_self_eq_true _
          have e2 : (f == q.1) = true := by rw [e]; exact beq_self_eq_true _
          obtain ⟨p1, p2⟩ := p
          obtain ⟨q1, q2⟩ := q
          simp only at e1 e2 a
          simp only [List.lookup, e1, e2]
          exact a
        · have e1 : (nmS f == p.1) = false := by rw [h1.1]; exact beq_eq_false_iff_ne.mpr fun z => e (nmS_inj z)
          have e2 : (f == q.1) = false := beq_eq_false_iff_ne.mpr e
          obtain ⟨p1, p2⟩ := p
          obtain ⟨q1, q2⟩ := q
          simp only at e1 e2
          simp only [List.lookup, e1, e2]
          exact ih h1.2 b
theorem zip_fst {ns : List String} {ds : List D} (h : ns.length = ds.length) : (ns.zip ds).map (·.1) = ns ∧ (ns.zip ds).map (·.2) = ds := by
  induction ns generalizing ds with
  | nil => cases ds with
    | nil => exact ⟨rfl, rfl⟩
    | cons _ _ => simp at h
  | cons n ns ih => cases ds with
    | nil => simp at h
    | cons d ds =>
      obtain ⟨a, b⟩ := ih (ds := ds) (by simpa using h)
      constructor
      · rw [List.zip_cons_cons, List.map_cons, a]
      · rw [List.zip_cons_cons, List.map_cons, b]
/-- an instance -/
theorem inst_rel {v : V} {x : D} {c : String} (rs : RS ca K ex ms st H) (r : VRel ca K (vw ex ms st H) ms v x) (e : classOf st x = some c) :
    ∃ (a C dx : Addr) (vs : List (Str × V)) (fs : List (String × D)), v = .ref a ∧ ca c = some C ∧ H a = some (.ins C dx vs) ∧ FR ca K (vw ex ms st H) ms vs fs ∧ ∀ f, fieldOf st f x = fs.lookup f := by
  cases r with
  | obj hc h hn r =>
    rename_i c0 fs ns ds
    cases e
    have hl : ns.length = ds.length := by
      have l1 := congrArg List.length hn
      have l2 := r.length
      rw [List.length_map, List.length_map] at l1
      rw [List.length_map] at l2
      omega
    obtain ⟨z1, z2⟩ := zip_fst hl
    refine ⟨_, _, _, fs, ns.zip ds, rfl, hc, vw_le _ _ h, ⟨?_, by rw [z2]; exact r⟩, fun f => rfl⟩
    rw [hn]
    conv => lhs; rw [← z1]
    rw [List.map_map]; rfl
  | own hn =>
    simp only [classOf] at e
    split at e
    · rename_i c' fs e1
      cases e
      obtain ⟨C, dx, vs, q0, q1, q2, q3⟩ := rs.cells _ _ _ hn e1
      exact ⟨_, C, dx, vs, fs, rfl, q0, q1, ⟨q2, q3⟩, fun f => by simp only [fieldOf, e1]⟩
    · cases e
  | tup => cases e
  | lst => cases e
  | non => cases e
  | bl => cases e
  | int => cases e
  | str => cases e
end

section
variable {P : Prog} {Φ : Calls} {ca : String → Option Addr} {k : Nat} {X : Cx} {W : WX}
/-- o.f where o is no super() -/
def noSup : Expr → Bool
  | .Call (.Name _ _) _ _ _ => false
  | _ => true
theorem att_base {o : Expr} {f : Str} {env : PySem.Env} (h : noSup o = true) : attributeBase o f env (eval o env) = eval o env := by
  unfold attributeBase
  split
  · simp [noSup] at h
  · rfl
theorem attr_run (C : CtxOk ca P k X W) (G : GOk ca P X.prog X.w X.K X.mg X.base Φ k) {f : String} {pins : List (Addr × Obj)} {σ : L2.St} {H : Hp} {s : Shared} {Q : VK} {ex ms : List Addr} {st : Store} {v : V} {u : Value} {x : D} {b : Bool}
    (I : Inv X pins σ H s) (rs : RS ca X.K ex ms st H) (rv : VRel ca X.K (vw ex ms st H) ms v x) (ru : RelV v u) (h : post ca X.K (VRel ca X.K) ex ms st H (attrK P Φ f x st) Q (WE' W σ)) : wpAny (model X.prog X.w) X.A (getAttr u (nmS f) b) (EP X pins σ Q) X.xe s := by
  unfold attrK at h
  cases ec : classOf st x with
  | none => rw [ec] at h; exact h.elim
  | some c =>
    rw [ec] at h
    cases ek : P.cl c with
    | none => simp only [Option.bind_some, ek] at h; exact h.elim
    | some kc =>
      simp only [Option.bind_some, ek] at h
      obtain ⟨a, C1, dx, vs, fs, rfl, hc, hH, fr, hf⟩ := inst_rel rs rv ec
      obtain ⟨C2, hc2, hm, cl, _, _, props, flds⟩ := G.cls c kc ek
      rw [hc] at hc2; cases hc2
      cases (show u = Value.ref a from ru)
      cases ep : kc.props.lookup f with
      | some g =>
        simp only [ep] at h
        obtain ⟨pa, ga, po, F⟩ := props f g ep
        obtain ⟨fd, ps, ⟨hb, hkw⟩, Gf⟩ := F.ex
        obtain ⟨mA, O, _, _, _, _⟩ := ins_get I.hok hH
        obtain ⟨od, J, _⟩ := O.look
        obtain ⟨rest, hrec⟩ := po.rec_
        have I1 := I.tok (s.toks + 1)
        have sp : spI ca X.K Φ g [.ref a] H Q (fun _ _ _ => False) := by
          refine ⟨ex, ms, st, [x], rs, .cons rv .nil, ?_⟩
          revert h
          cases Φ g [x] st with
          | ok d st' => exact fun h => h
          | exn c vs st' => exact fun h => h.elim
          | stuck => exact fun h => h.elim
        have hl : ([Value.ref a] ++ []).length = ps.length := by rw [← Gf.len _ _ _ _ sp]; rfl
        have hcl : (PySem.W.clsIn X.K C1).isSome = true := by
          obtain ⟨cd, h1, _⟩ := PySem.W.any_some cl.hd
          rw [h1]; rfl
        have bd := hb { s with toks := s.toks + 1 } [.ref a] I1.kIn hl
        refine PySem.W.get_bind I.kIn J (PySem.W.plainGet_of (cl.get (nmS f))).1 (PySem.W.findObj_data hcl po.at_ po.get po.tak) (PySem.W.plainGet_of (cl.get (nmS f))).2 (wpAny_call (PySem.W.prop_get (s := { s with toks := s.toks + 1 }) I.kIn hrec ?_))
        refine codeAny_mono (Gf.run X.A.in1 X.stack { s with toks := s.toks + 1 } H ⟨[.ref a], []⟩ [.ref a] [.ref a] Q (fun _ _ _ => False) C.gd (C.room.in1.mono (Nat.le_add_right _ _)) I1.env0.in1 bd (.cons rfl .nil) sp) fun r s' hq => ?_
        cases r with
        | error er =>
          obtain ⟨_, _, _, _, _, _, _, _, _, _, _, _, z⟩ := hq
          exact z.elim
        | ok fl =>
          cases fl with
          | ret u =>
            obtain ⟨v, H', I3, rv, q3⟩ := I1.after hq
            show wpAny _ _ (handedOut u) _ _ _
            rw [PySem.W.handedOut_of (handed_of rv)]
            exact wpAny_pure ⟨v, H', I3, rv, q3⟩
          | next => exact hq.elim
          | brk => exact hq.elim
          | cont => exact hq.elim
      | none =>
        simp only [ep] at h
        split at h
        · rename_i hfl
          obtain ⟨d, ed, h⟩ := h.opt
          rw [hf] at ed
          have fl := fr.look f
          rw [ed] at fl
          revert fl
          cases el : vs.lookup (nmS f) with
          | none => exact fun z => z.elim
          | some y => exact fun z => getattr_ok I hH cl (flds f hfl) el fun u s' I' ru' => ⟨y, H, I', ru', h.here rs z⟩
        · exact h.elim
theorem s_attr (C : CtxOk ca P k X W) (G : GOk ca P X.prog X.w X.K X.mg X.base Φ k) {f : String} {o : Expr} {c : CE} {pos : Pos} (ho : PE X o (tV P Φ ca X.K W c)) (hn : noSup o = true) : PE X (.Attribute o (nmS f) pos) (tV P Φ ca X.K W (.attr c f)) := by
  refine ⟨fun pins s σ H Q I h => attr_of (att_base hn) ?_⟩
  obtain ⟨ex, ms, st, ρ, rs, sl, h⟩ := h
  simp only [evalM, fin_v] at h
  refine thn (ho.run pins s σ H (fun v H1 => ∃ (ex ms : List Addr) (st : Store) (x : D), RS ca X.K ex ms st H1 ∧ VRel ca X.K (vw ex ms st H1) ms v x ∧ post ca X.K (VRel ca X.K) ex ms st H1 (attrK P Φ f x st) Q (WE' W σ)) I
    ⟨ex, ms, st, ρ, rs, sl, h.bd fun d st1 ms1 H1 v rs1 x1 r1 h1 => ⟨ex, ms1, st1, d, rs1, r1, h1⟩⟩) fun u s1 q => ?_
  obtain ⟨v, H1, I1, ru, ex, ms, st, x, rs, rv, h⟩ := q
  exact attr_run C G I1 rs rv ru h
theorem few_args {env : PySem.Env} {pos : Pos} : ∀ {es : List Expr}, es.all noStar = true → (backTo pos (starEach es env)).all (fun x => !x.1) = true
  | [], _ => rfl
  | e :: es, h => by
    rw [List.all_cons, Bool.and_eq_true] at h
    rw [star_each h.1]
    show ((true : Bool) && (backTo pos (starEach es env)).all (fun x => !x.1)) = true
    rw [few_args h.2]; rfl
theorem meth_tree {o : Expr} {m : Str} {apos pos : Pos} {es : List Expr} {env : PySem.Env} (hn : noSup o = true) (hs : es.all noStar = true) (hl : es.length < 30) (hline : (apos.endLine == pos.line) = true) :
    eval (.Call (.Attribute o m apos) es [] pos) env = (do
      let ov ← eval o env
      standAt apos.atName
      let (f, first) ← holding [ov] (getMethod ov m (do return (← importBound o env).getD true))
      callWith pos f first (backTo pos (starEach es env)) (backToKw pos (keywordEach [] env))) := by
  have few : methodCallForm (es.length + ([] : List Keyword).length) (backTo pos (starEach es env)) (backToKw pos (keywordEach [] env)) = true := by
    unfold methodCallForm
    rw [few_args hs]
    simp [keywordEach, backToKw, hl]
  show (do
    let ov ← attributeBase o m env (eval o env)
    standAt apos.atName
    methodCall o m apos pos env ov (es.length + ([] : List Keyword).length) (backTo pos (starEach es env)) (backToKw pos (keywordEach [] env))) = _
  rw [att_base hn]
  unfold methodCall
  rw [few]
  unfold calleeOf methodCallPos
  simp only [hline, Bool.not_true, Bool.false_or, if_true]
  rfl

theorem callee_none {K : PySem.W.Frag} {F : Hp} {ms : List Addr} {vs : List (Str × V)} {fs : List (String × D)} {m : String} (fr : FR ca K F ms vs fs) (h : fs.lookup m = none) : vs.lookup (nmS m) = none := by
  have q := fr.look m
  rw [h] at q
  revert q
  cases vs.lookup (nmS m) with
  | none => exact fun _ => rfl
  | some _ => exact fun z => z.elim
/-- the method of a thing is found -/
theorem meth_found (G : GOk ca P X.prog X.w X.K X.mg X.base Φ k) {m : String} {H : Hp} {ex ms : List Addr} {st : Store} {v : V} {x : D} {f : String}
    (rs : RS ca X.K ex ms st H) (rv : VRel ca X.K (vw ex ms st H) ms v x) (h : findM P x m st = some f) :
    ∃ (a C dx : Addr) (vs : List (Str × V)) (fa : Addr), v = .ref a ∧ H a = some (.ins C dx vs) ∧ Cls X.K C ∧ vs.lookup (nmS m) = none ∧ L2.Meth X.K C (nmS m) fa ∧ FnAt P ca X.prog X.w X.K X.mg X.base Φ k f fa := by
  unfold findM at h
  cases ec : classOf st x with
  | none => rw [ec] at h; cases h
  | some c =>
    rw [ec] at h
    cases ek : P.cl c with
    | none => simp only [Option.bind_some, ek] at h; cases h
    | some kc =>
      simp only [Option.bind_some, ek] at h
      obtain ⟨a, C1, dx, vs, fs, rfl, hc, hH, fr, hf⟩ := inst_rel rs rv ec
      obtain ⟨C2, hc2, hm, cl, meths, _, _, _⟩ := G.cls c kc ek
      rw [hc] at hc2; cases hc2
      cases ef : fieldOf st m x with
      | some _ => rw [ef] at h; cases h
      | none =>
        rw [ef] at h
        obtain ⟨fa, hM, F⟩ := meths m f h
        exact ⟨a, C1, dx, vs, fa, rfl, hH, cl, callee_none fr ((hf m).symm.trans ef), hM, F⟩
theorem methK_of {β : Type} {rel : Hp → List Addr → β → D → Prop} {K : PySem.W.Frag} {ex ms : List Addr} {st : Store} {H : Hp} {o : Option String} {g : String → R D} {Q : β → Hp → Prop} {E : XK} (h : post ca K rel ex ms st H (methK o g) Q E) : ∃ f, o = some f ∧ post ca K rel ex ms st H (g f) Q E := by
  cases o with
  | none => exact h.elim
  | some f => exact ⟨f, rfl, h⟩
theorem s_ometh0 (C : CtxOk ca P k X W) (G : GOk ca P X.prog X.w X.K X.mg X.base Φ k) {m : String} {o : Expr} {c : CE} {apos pos : Pos} (ho : PE X o (tV P Φ ca X.K W c)) (hn : noSup o = true) (hline : (apos.endLine == pos.line) = true) :
    PE X (.Call (.Attribute o (nmS m) apos) [] [] pos) (tV P Φ ca X.K W (.ometh c m [])) := by
  refine ⟨fun pins s σ H Q I h => ?_⟩
  obtain ⟨ex, ms, st, ρ, rs, sl, h⟩ := h
  simp only [evalM, fin_v, evalEs, R.bd_ok] at h
  refine PySem.W.methodCall_KW (thn (ho.run pins s σ H (fun v H1 => ∃ (ex ms : List Addr) (st : Store) (x : D), RS ca X.K ex ms st H1 ∧ VRel ca X.K (vw ex ms st H1) ms v x ∧ post ca X.K (VRel ca X.K) ex ms st H1 (methK (findM P x m st) fun f => Φ f [x] st) Q (WE' W σ)) I
    ⟨ex, ms, st, ρ, rs, sl, h.bd fun d st1 ms1 H1 v rs1 x1 r1 h1 => ⟨ex, ms1, st1, d, rs1, r1, h1⟩⟩) fun u s1 q => ?_) (meth_tree (es := []) hn rfl (by decide) hline)
  obtain ⟨v, H1, I1, ru, ex, ms, st, x, rs, rv, h⟩ := q
  obtain ⟨f, ef, h⟩ := methK_of h
  obtain ⟨a, C1, dx, vs, fa, rfl, hH, cl, hlk, hM, F⟩ := meth_found G rs rv ef
  cases (show u = Value.ref a from ru)
  refine getmeth_ok I1 hH cl hM hlk ?_
  exact PySem.W.callWith_K0 (first := [.ref a]) I1.kIn hM.kp (run_at (us := [.ref a]) (vs := [.ref a]) C F I1 (.cons rfl .nil) rs (.cons rv .nil) h)
theorem s_ometh (C : CtxOk ca P k X W) (G : GOk ca P X.prog X.w X.K X.mg X.base Φ k) {m : String} {o e : Expr} {es : List Expr} {c : CE} {cs : List CE} {apos pos : Pos} (ho : PE X o (tV P Φ ca X.K W c)) (ha : PA X (e :: es) (tAs P Φ ca X.K W cs)) (hn : noSup o = true) (hs : (e :: es).all noStar = true)
    (hl : (e :: es).length < 30) (hline : (apos.endLine == pos.line) = true) : PE X (.Call (.Attribute o (nmS m) apos) (e :: es) [] pos) (tV P Φ ca X.K W (.ometh c m cs)) := by
  refine ⟨fun pins s σ H Q I h => ?_⟩
  obtain ⟨ex, ms, st, ρ, rs, sl, h⟩ := h
  simp only [evalM, fin_v] at h
  refine PySem.W.methodCall_KW (thn (ho.run pins s σ H (fun v H1 => ∃ (ex ms : List Addr) (st : Store) (x : D), RS ca X.K ex ms st H1 ∧ SlotRel ca X.K (vw ex ms st H1) ms σ ρ ∧ VRel ca X.K (vw ex ms st H1) ms v x ∧
      post ca X.K (VRel ca X.K) ex ms st H1 (methK (findM P x m st) fun f => (evalEs P Φ ρ cs st).bd fun xs st => Φ f (x :: xs) st) Q (WE' W σ)) I
    ⟨ex, ms, st, ρ, rs, sl, h.bd fun d st1 ms1 H1 v rs1 x1 r1 h1 => ⟨ex, ms1, st1, d, rs1, sl.mono x1.same x1.pre, r1, h1⟩⟩) fun u s1 q => ?_) (meth_tree hn hs hl hline)
  obtain ⟨v, H1, I1, ru, ex, ms, st, x, rs, sl, rv, h⟩ := q
  obtain ⟨f, ef, h⟩ := methK_of h
  obtain ⟨a, C1, dx, vs, fa, rfl, hH, cl, hlk, hM, F⟩ := meth_found G rs rv ef
  cases (show u = Value.ref a from ru)
  refine getmeth_ok I1 hH cl hM hlk ?_
  rw [List.all_cons, Bool.and_eq_true] at hs
  refine PySem.W.callWith_K (first := [.ref a]) (h₀ := X.base) I.ok.mod.kin hM.kp (thn (ha.run pos pins s1 σ H1 (fun vs H2 => ∃ (ex ms : List Addr) (st : Store) (ds : List D), RS ca X.K ex ms st H2 ∧ VRels ca X.K (vw ex ms st H2) ms (.ref a :: vs) ds ∧ post ca X.K (VRel ca X.K) ex ms st H2 (Φ f ds st) Q (WE' W σ)) I1 ?_) fun us s2 q => ?_) (star_each hs.1) (star_any hs.2)
  · exact ⟨ex, ms, st, ρ, rs, sl, h.bd fun ds st1 ms1 H2 vs rs1 x1 r1 h1 => ⟨ex, ms1, st1, x :: ds, rs1, .cons (rv.mono x1.same x1.pre) r1, h1⟩⟩
  · obtain ⟨vs, H2, I2, r, ex, ms, st, ds, rs, rv, h⟩ := q
    exact ⟨I2.kIn, run_at (us := .ref a :: us) (vs := .ref a :: vs) C F I2 (.cons rfl r) rs rv h⟩

theorem make_run (C : CtxOk ca P k X W) (G : GOk ca P X.prog X.w X.K X.mg X.base Φ k) {c : String} {kc : ClC} {f : String} {m : Bool} (ek : P.cl c = some kc) (ef : kc.meths.lookup "__init__" = some f) {C1 : Addr} (hc : ca c = some C1) {pins : List (Addr × Obj)} {σ : L2.St} {H : Hp} {s : Shared} {Q : VK} {us all : List Value} {kw : List (Str × Value)} {vs : List V} {ex ms : List Addr} {st : Store} {ds : List D}
    (hbd : ∀ (fd : FuncData) (ps : List Str), (Binds X.K fd ps [] ∧ ∀ p, p ∈ P.kw f → KwOk fd ps p) → ∀ (s : Shared) (x : Value), X.K.In s.heap → (x :: all).length = ps.length → BindsTo s fd ⟨x :: us, kw⟩ (ps.zip (x :: all)))
    (I : Inv X pins σ H s) (r : Vals vs all) (rs : RS ca X.K ex ms st H) (rv : VRels ca X.K (vw ex ms st H) ms vs ds) (h : post ca X.K (VRel ca X.K) ex ms st H (newK Φ f c m ds st) Q (WE' W σ)) : wpAny (model X.prog X.w) X.A (call (.ref C1) us kw) (EP X pins σ Q) X.xe s := by
  obtain ⟨C2, hc2, hm, cl, _, inits, _, _⟩ := G.cls c kc ek
  rw [hc] at hc2; cases hc2
  obtain ⟨fa, M, F⟩ := inits f ef
  obtain ⟨fd, ps, ⟨hb, hkw⟩, Gf⟩ := F.ex
  -- the new instance at x, its dict at dx
  have hx := I.hok.fresh (Nat.le_succ s.heap.objs.size)
  have hdx := I.hok.fresh (Nat.le_refl s.heap.objs.size)
  have I2 := Inv.made (C := C1) I
  obtain ⟨rs1, x1, m1⟩ := rs.made (o := .own (s.heap.objs.size + 1)) hdx
  have hx1 : upd H s.heap.objs.size (.own (s.heap.objs.size + 1)) (s.heap.objs.size + 1) = none := by
    rw [upd_ne (Nat.ne_of_gt (Nat.lt_succ_self _))]; exact hx
  obtain ⟨rs2, x2⟩ := rs1.push (o := .ins C1 s.heap.objs.size []) (c := .ins c []) hx1 rfl ⟨C1, s.heap.objs.size, [], hc, upd_same, rfl, .nil⟩
  have own : (ms ++ [s.heap.objs.size + 1])[st.length]? = some (s.heap.objs.size + 1) := by
    rw [← rs.len, List.getElem?_append_right (Nat.le_refl _)]; simp
  unfold newK at h
  have sp : spI ca X.K Φ f (.ref (s.heap.objs.size + 1) :: vs) (upd (upd H s.heap.objs.size (.own (s.heap.objs.size + 1))) (s.heap.objs.size + 1) (.ins C1 s.heap.objs.size [])) (fun v H2 => v = .non ∧ Q (.ref (s.heap.objs.size + 1)) H2) (WE' W σ) := by
    refine ⟨ex, ms ++ [s.heap.objs.size + 1], st ++ [.ins c []], .own st.length :: ds, rs2, .cons (.own own) ((rv.mono x1.same x1.pre).mono x2.same x2.pre), ?_⟩
    have x12 := x1.trans x2
    cases eF : Φ f (.own st.length :: ds) (st ++ [.ins c []]) with
    | stuck => rw [eF] at h; exact h.elim
    | exn c' vs' st' => rw [eF] at h; exact fun ms' H' cls dd q1 q2 q3 => h ms' H' cls dd q1 (x12.trans q2) q3
    | ok d st3 =>
      rw [eF] at h
      simp only [R.bd_ok] at h
      intro ms3 H3 v rs3 x3 r3
      split at h
      · refine ⟨vr_non r3, ?_⟩
        have own3 : VRel ca X.K (vw ex ms3 st3 H3) ms3 (.ref (s.heap.objs.size + 1)) (.own st.length) := .own (pre_get x3.pre own)
        split at h
        · exact h ms3 H3 _ rs3 (x12.trans x3) own3
        · cases e4 : freeze (.own st.length) st3 with
          | stuck => rw [e4] at h; exact h.elim
          | exn c vs st' => exact (freeze_no e4).elim
          | ok d' st4 =>
            rw [e4] at h
            simp only [R.bd_ok] at h
            obtain ⟨rs4, x4, r4⟩ := freeze_ok rs3 own3 e4
            obtain ⟨ms5, rs5, x5, r5⟩ := trim_ok rs4 ((x12.trans x3).trans x4) rs.len r4
            exact h ms5 H3 _ rs5 x5 r5
      · exact h.elim
  have r2 : Vals (V.ref (s.heap.objs.size + 1) :: vs) (Value.ref (s.heap.objs.size + 1) :: all) := .cons rfl r
  have hl : (Value.ref (s.heap.objs.size + 1) :: all).length = ps.length := by
    rw [← r2.length]; exact Gf.len _ _ _ _ sp
  have bd := hbd fd ps ⟨hb, hkw⟩ _ (Value.ref (s.heap.objs.size + 1)) I2.kIn hl
  refine wpAny_call (make_map (f := fa) I.kIn M.makes M.init (beq_iff_eq.mp M.fn) (codeAny_mono (Gf.run _ X.stack _ _ ⟨Value.ref (s.heap.objs.size + 1) :: us, kw⟩ _ _ _ (WE' W σ) C.gd ((C.room.mono (Nat.add_le_add_left (by decide : 1 ≤ 4) k)).make C1 us kw)
    (I2.env0.make C1 us kw) bd r2 sp) fun r s' hq => ?_))
  cases r with
  | error e => exact passAt C.tk σ pins _ _ e s' I2 hq
  | ok fl =>
    cases fl with
    | ret u =>
      obtain ⟨v, H', I3, rv', ev, q3⟩ := I2.after hq
      subst ev
      exact ⟨rv', V.ref (s.heap.objs.size + 1), H', I3, rfl, q3⟩
    | next => exact hq.elim
    | brk => exact hq.elim
    | cont => exact hq.elim

theorem binds_pos {K : PySem.W.Frag} {fd : FuncData} {ps : List Str} {us : List Value} (hb : Binds K fd ps []) (s : Shared) (x : Value) (hk : K.In s.heap) (hl : (x :: us).length = ps.length) : BindsTo s fd ⟨x :: us, []⟩ (ps.zip (x :: us)) := by
  have := hb s (x :: us) hk (by simpa using hl)
  simpa using this
theorem s_new0 (C : CtxOk ca P k X W) (G : GOk ca P X.prog X.w X.K X.mg X.base Φ k) {c : String} {m : Bool} {p pos : Pos} (hg : L2.Gl X (nmS c)) (hd : (nmS c == ("__debug__" : Str)) = false) :
    PE X (.Call (.Name (nmS c) p) [] [] pos) (tV P Φ ca X.K W (.new c m [])) := by
  cases ef : (P.cl c).bind (fun k => k.meths.lookup "__init__") with
  | none =>
    refine PE.no.imp fun σ H Q h => ?_
    obtain ⟨ex, ms, st, ρ, rs, sl, h⟩ := h
    simp only [evalM, ef] at h
    exact h
  | some f =>
    obtain ⟨kc, ek, ei⟩ := Option.bind_eq_some_iff.mp ef
    obtain ⟨C1, hc, hm, _, _, inits, _, _⟩ := G.cls c kc ek
    obtain ⟨fa, M, F⟩ := inits f ei
    refine ⟨fun pins s σ H Q I h => wpAny_Call_Name_kw (ld_glob I hg hm ?_ hd)⟩
    obtain ⟨ex, ms, st, ρ, rs, sl, h⟩ := h
    simp only [evalM, ef, fin_v, evalEs, R.bd_ok] at h
    exact PySem.W.callWith_K0 I.kIn M.kp (make_run (us := []) C G ek ei hc (fun fd ps hb => binds_pos hb.1) I .nil rs .nil h)
theorem s_new (C : CtxOk ca P k X W) (G : GOk ca P X.prog X.w X.K X.mg X.base Φ k) {c : String} {m : Bool} {e : Expr} {es : List Expr} {cs : List CE} {p pos : Pos} (hg : L2.Gl X (nmS c)) (hd : (nmS c == ("__debug__" : Str)) = false) (ha : PA X (e :: es) (tAs P Φ ca X.K W cs)) (hs : (e :: es).all noStar = true) :
    PE X (.Call (.Name (nmS c) p) (e :: es) [] pos) (tV P Φ ca X.K W (.new c m cs)) := by
  cases ef : (P.cl c).bind (fun k => k.meths.lookup "__init__") with
  | none =>
    refine PE.no.imp fun σ H Q h => ?_
    obtain ⟨ex, ms, st, ρ, rs, sl, h⟩ := h
    simp only [evalM, ef] at h
    exact h
  | some f =>
    obtain ⟨kc, ek, ei⟩ := Option.bind_eq_some_iff.mp ef
    obtain ⟨C1, hc, hm, _, _, inits, _, _⟩ := G.cls c kc ek
    obtain ⟨fa, M, F⟩ := inits f ei
    refine ⟨fun pins s σ H Q I h => wpAny_Call_Name_kw (ld_glob I hg hm ?_ hd)⟩
    obtain ⟨ex, ms, st, ρ, rs, sl, h⟩ := h
    simp only [evalM, ef, fin_v] at h
    rw [List.all_cons, Bool.and_eq_true] at hs
    refine PySem.W.callWith_K (h₀ := X.base) I.ok.mod.kin M.kp (thn (ha.run pos pins s σ H (fun vs H1 => ∃ (ex ms : List Addr) (st : Store) (ds : List D), RS ca X.K ex ms st H1 ∧ VRels ca X.K (vw ex ms st H1) ms vs ds ∧ post ca X.K (VRel ca X.K) ex ms st H1 (newK Φ f c m ds st) Q (WE' W σ)) I
      ⟨ex, ms, st, ρ, rs, sl, h.bd fun ds st1 ms1 H1 vs rs1 x1 r1 h1 => ⟨ex, ms1, st1, ds, rs1, r1, h1⟩⟩) fun us s1 q => ?_) (star_each hs.1) (star_any hs.2)
    obtain ⟨vs, H1, I1, r, ex, ms, st, ds, rs, rv, h⟩ := q
    exact ⟨I1.kIn, make_run C G ek ei hc (fun fd ps hb => binds_pos hb.1) I1 r rs rv h⟩
end
end MP
end

section
set_option linter.all false
set_option autoImplicit false
set_option maxHeartbeats 1000000
namespace MP
open PySem L2 PyProof.Rows

theorem R.assoc {α β γ : Type} (m : R α) (f : α → Store → R β) (g : β → Store → R γ) : (m.bd f).bd g = m.bd fun a st => (f a st).bd g := by cases m <;> rfl

section
variable {P : Prog} {Φ : Calls} {ca : String → Option Addr} {k : Nat} {X : Cx} {W : WX}

theorem tru_data {ex ms : List Addr} {st : Store} {H : Hp} {v : V} {d : D} {b : Bool} (rs : RS ca X.K ex ms st H) (r : VRel ca X.K (vw ex ms st H) ms v d) (e : truD st d = some b) : TruV X.K v H b := by
  unfold truD at e
  split at e
  · cases e; cases vr_non r; rfl
  · cases e; cases vr_bl r; rfl
  · cases e; cases vr_int r; rfl
  · rename_i z
    split at e
    · rename_i hz
      cases e; cases vr_str r
      refine ⟨by rw [LINE_eq]; exact hz, ?_⟩
      cases hl : z.length with
      | zero => rfl
      | succ n =>
        show (n + 1 != 0) = ((((n + 1 : Nat) : Int)) != 0)
        have h1 : (n + 1 != 0) = true := by simp
        have h2 : ((((n + 1 : Nat) : Int)) != 0) = true := by simp; omega
        rw [h1, h2]
    · cases e
  · cases e
    cases r with
    | tup h r => exact .inr (.inl ⟨_, Same.seqT vw_le h, by cases r <;> rfl⟩)
  · cases e
    cases r with
    | lst h r => exact .inl ⟨_, Same.seqL vw_le h, by cases r <;> rfl⟩
  · split at e
    · rename_i xs e1
      cases e
      cases r with
      | own hn =>
        obtain ⟨vs, q1, q2⟩ := rs.cells _ _ _ hn e1
        exact .inl ⟨_, .inl (.inl q1), by cases q2 <;> rfl⟩
    · rename_i kvs e1
      cases e
      cases r with
      | own hn =>
        obtain ⟨vs, q1, q2⟩ := rs.cells _ _ _ hn e1
        exact .inr (.inr ⟨_, q1, by cases q2 <;> rfl⟩)
    · cases e
  · cases e
/-- a test that is asked by its value -/
def plainT : Expr → Bool
  | .BoolOp _ _ _ => false
  | .UnaryOp .Not _ _ => false
  | .IfExp _ _ _ _ => false
  | .Compare _ _ _ _ => false
  | _ => true
theorem plain_true {e : Expr} {env : PySem.Env} (h : plainT e = true) : ∀ whole, isTrue e env whole = (do let v ← whole; standAt e.pos; holding [v] (truthy v)) := by
  intro whole
  cases e with
  | BoolOp => simp [plainT] at h
  | IfExp => simp [plainT] at h
  | Compare => simp [plainT] at h
  | UnaryOp op a pos => cases op <;> first | rfl | (simp [plainT] at h)
  | _ => rfl
theorem t_plain {e : Expr} {c : CE} (he : PE X e (tV P Φ ca X.K W c)) (hp : plainT e = true) (hc : ∀ ρ st, evalM P Φ ρ .t c st = fin .t (evalM P Φ ρ .v c st)) : PT X e (tT P Φ ca X.K W c) := by
  refine (pt_truth he (plain_true hp)).imp fun σ H Q h => ?_
  obtain ⟨ex, ms, st, ρ, rs, sl, h⟩ := h
  rw [hc] at h
  refine ⟨ex, ms, st, ρ, rs, sl, h.bd fun d st1 ms1 H1 v rs1 x1 r1 h1 => ?_⟩
  obtain ⟨d', e1, h1⟩ := h1.opt
  simp only [Option.map_eq_some_iff] at e1
  obtain ⟨b, e1, rfl⟩ := e1
  exact ⟨b, tru_data rs1 r1 e1, h1.here rs1 rfl⟩

theorem boolK_of {β : Type} {rel : Hp → List Addr → β → D → Prop} {K : PySem.W.Frag} {ex ms : List Addr} {st : Store} {H : Hp} {f : Bool → Store → R D} {d : D} {Q : β → Hp → Prop} {E : XK} (h : post ca K rel ex ms st H (boolK f d st) Q E) : ∃ k, d = .bl k ∧ post ca K rel ex ms st H (f k st) Q E := by
  unfold boolK at h
  split at h
  · exact ⟨_, rfl, h⟩
  · exact h.elim
theorem s_and {a b : Expr} {rest : List Expr} {c1 c2 : CE} {pos : Pos} (h1 : PE X a (tV P Φ ca X.K W c1)) (h2 : PE X (.BoolOp .And (b :: rest) pos) (tV P Φ ca X.K W c2)) : PE X (.BoolOp .And (a :: b :: rest) pos) (tV P Φ ca X.K W (.and c1 c2)) :=
  (pe_and h1 h2).imp fun σ H Q h => by
    obtain ⟨ex, ms, st, ρ, rs, sl, h⟩ := h
    simp only [evalM, fin_v] at h
    refine ⟨ex, ms, st, ρ, rs, sl, h.bd fun d st1 ms1 H1 v rs1 x1 r1 h1 => ?_⟩
    obtain ⟨kk, rfl, h1⟩ := boolK_of h1
    cases vr_bl r1
    refine ⟨kk, rfl, ?_⟩
    cases kk with
    | true => exact ⟨ex, ms1, st1, ρ, rs1, sl.mono x1.same x1.pre, h1⟩
    | false => exact h1.here rs1 (.bl _)
theorem s_or {a b : Expr} {rest : List Expr} {c1 c2 : CE} {pos : Pos} (h1 : PE X a (tV P Φ ca X.K W c1)) (h2 : PE X (.BoolOp .Or (b :: rest) pos) (tV P Φ ca X.K W c2)) : PE X (.BoolOp .Or (a :: b :: rest) pos) (tV P Φ ca X.K W (.or c1 c2)) :=
  (pe_or h1 h2).imp fun σ H Q h => by
    obtain ⟨ex, ms, st, ρ, rs, sl, h⟩ := h
    simp only [evalM, fin_v] at h
    refine ⟨ex, ms, st, ρ, rs, sl, h.bd fun d st1 ms1 H1 v rs1 x1 r1 h1 => ?_⟩
    obtain ⟨kk, rfl, h1⟩ := boolK_of h1
    cases vr_bl r1
    refine ⟨kk, rfl, ?_⟩
    cases kk with
    | false => exact ⟨ex, ms1, st1, ρ, rs1, sl.mono x1.same x1.pre, h1⟩
    | true => exact h1.here rs1 (.bl _)
theorem s_not {a : Expr} {c1 : CE} {pos : Pos} (h1 : PE X a (tV P Φ ca X.K W c1)) : PE X (.UnaryOp .Not a pos) (tV P Φ ca X.K W (.not c1)) :=
  (pe_not h1).imp fun σ H Q h => by
    obtain ⟨ex, ms, st, ρ, rs, sl, h⟩ := h
    simp only [evalM, fin_v] at h
    refine ⟨ex, ms, st, ρ, rs, sl, h.bd fun d st1 ms1 H1 v rs1 x1 r1 h1 => ?_⟩
    obtain ⟨kk, rfl, h1⟩ := boolK_of h1
    cases vr_bl r1
    exact ⟨kk, rfl, h1.here rs1 (.bl _)⟩
theorem s_ite {t a b : Expr} {ct c1 c2 : CE} {pos : Pos} (ht : PT X t (tT P Φ ca X.K W ct)) (h1 : PE X a (tV P Φ ca X.K W c1)) (h2 : PE X b (tV P Φ ca X.K W c2)) : PE X (.IfExp t a b pos) (tV P Φ ca X.K W (.ite ct c1 c2)) :=
  (pe_ifExp ht h1 h2).imp fun σ H Q h => by
    obtain ⟨ex, ms, st, ρ, rs, sl, h⟩ := h
    simp only [evalM, fin_v] at h
    refine ⟨ex, ms, st, ρ, rs, sl, h.bd fun d st1 ms1 H1 v rs1 x1 r1 h1 => ?_⟩
    cases (show d = .bl v from r1)
    rw [boolK_bl] at h1
    cases v with
    | true => exact ⟨ex, ms1, st1, ρ, rs1, sl.mono x1.same x1.pre, h1⟩
    | false => exact ⟨ex, ms1, st1, ρ, rs1, sl.mono x1.same x1.pre, h1⟩
theorem s_neg {a : Expr} {c1 : CE} {pos : Pos} (h1 : PE X a (tV P Φ ca X.K W c1)) : PE X (.UnaryOp .USub a pos) (tV P Φ ca X.K W (.neg c1)) :=
  (pe_un un_neg h1).imp fun σ H Q h => by
    obtain ⟨ex, ms, st, ρ, rs, sl, h⟩ := h
    simp only [evalM, fin_v] at h
    refine ⟨ex, ms, st, ρ, rs, sl, h.bd fun d st1 ms1 H1 v rs1 x1 r1 h1 => ?_⟩
    unfold negK at h1
    split at h1
    · cases vr_int r1
      exact ⟨_, rfl, h1.here rs1 (.int _)⟩
    · exact h1.elim

theorem t_and {a b : Expr} {rest : List Expr} {c1 c2 : CE} {pos : Pos} (h1 : PT X a (tT P Φ ca X.K W c1)) (h2 : PW X (.BoolOp .And (b :: rest) pos) (tT P Φ ca X.K W c2)) : PW X (.BoolOp .And (a :: b :: rest) pos) (tT P Φ ca X.K W (.and c1 c2)) := by
  refine ⟨fun wh pins s σ H Q I h => (pw_and h1 h2).run wh pins s σ H Q I ?_⟩
  obtain ⟨ex, ms, st, ρ, rs, sl, h⟩ := h
  simp only [evalM] at h
  refine ⟨ex, ms, st, ρ, rs, sl, h.bd fun d st1 ms1 H1 v rs1 x1 r1 h1 => ?_⟩
  cases (show d = .bl v from r1)
  rw [boolK_bl] at h1
  cases v with
  | true => exact ⟨ex, ms1, st1, ρ, rs1, sl.mono x1.same x1.pre, h1⟩
  | false => exact h1.here rs1 rfl
theorem t_or {a b : Expr} {rest : List Expr} {c1 c2 : CE} {pos : Pos} (h1 : PT X a (tT P Φ ca X.K W c1)) (h2 : PW X (.BoolOp .Or (b :: rest) pos) (tT P Φ ca X.K W c2)) : PW X (.BoolOp .Or (a :: b :: rest) pos) (tT P Φ ca X.K W (.or c1 c2)) := by
  refine ⟨fun wh pins s σ H Q I h => (pw_or h1 h2).run wh pins s σ H Q I ?_⟩
  obtain ⟨ex, ms, st, ρ, rs, sl, h⟩ := h
  simp only [evalM] at h
  refine ⟨ex, ms, st, ρ, rs, sl, h.bd fun d st1 ms1 H1 v rs1 x1 r1 h1 => ?_⟩
  cases (show d = .bl v from r1)
  rw [boolK_bl] at h1
  cases v with
  | false => exact ⟨ex, ms1, st1, ρ, rs1, sl.mono x1.same x1.pre, h1⟩
  | true => exact h1.here rs1 rfl
theorem t_not {a : Expr} {c1 : CE} {pos : Pos} (h1 : PT X a (tT P Φ ca X.K W c1)) : PT X (.UnaryOp .Not a pos) (tT P Φ ca X.K W (.not c1)) := by
  refine (pt_not h1).imp fun σ H Q h => ?_
  obtain ⟨ex, ms, st, ρ, rs, sl, h⟩ := h
  simp only [evalM] at h
  refine ⟨ex, ms, st, ρ, rs, sl, h.bd fun d st1 ms1 H1 v rs1 x1 r1 h1 => ?_⟩
  cases (show d = .bl v from r1)
  rw [boolK_bl] at h1
  exact h1.here rs1 rfl

theorem chain_data (C : CtxOk ca P k X W) {o o' : OpC} {c1 c2 c3 : CE} {σ : L2.St} {H : Hp} {Q : VK} (h : tV P Φ ca X.K W (.chain o o' c1 c2 c3) σ H Q) :
    tChain (rC ca X.K o) (rC ca X.K o') (tV P Φ ca X.K W c1) (tV P Φ ca X.K W c2) (tV P Φ ca X.K W c3) σ H Q := by
  obtain ⟨ex, ms, st, ρ, rs, sl, h⟩ := h
  simp only [evalM, fin_v] at h
  refine ⟨ex, ms, st, ρ, rs, sl, h.bd fun d st1 ms1 H1 v rs1 x1 r1 h1 => ⟨ex, ms1, st1, ρ, rs1, sl.mono x1.same x1.pre, h1.bd fun d2 st2 ms2 H2 v2 rs2 x2 r2 h2 => ?_⟩⟩
  cases e : cmpF st2 o d d2 with
  | none => rw [e] at h2; exact h2.elim
  | some kk =>
    rw [e] at h2
    simp only [opt_some, R.bd_ok] at h2
    refine ⟨ex, ms2, st2, d, d2, kk, rs2, r1.mono x2.same x2.pre, r2, e, kk, rfl, ?_⟩
    cases kk with
    | false => exact h2.here rs2 (.bl _)
    | true =>
      have h2' : post ca X.K (VRel ca X.K) ex ms2 st2 H2 ((evalM P Φ ρ .v c3 st2).bd fun z st => opt ((cmpF st o' d2 z).map .bl) st) Q (WE' W σ) := h2
      refine ⟨ex, ms2, st2, ρ, rs2, (sl.mono x1.same x1.pre).mono x2.same x2.pre, h2'.bd fun d3 st3 ms3 H3 v3 rs3 x3 r3 h3 => ?_⟩
      obtain ⟨d', e3, h3⟩ := h3.opt
      simp only [Option.map_eq_some_iff] at e3
      obtain ⟨kk, e3, rfl⟩ := e3
      exact ⟨ex, ms3, st3, d2, d3, kk, rs3, r2.mono x3.same x3.pre, r3, e3, h3.here rs3 (.bl _)⟩
theorem chain_bl {o o' : OpC} {c1 c2 c3 : CE} {ρ : MP.Env} {st : Store} : ∀ d st', evalM P Φ ρ .v (.chain o o' c1 c2 c3) st = .ok d st' → ∃ b, d = .bl b := by
  intro d st' h
  simp only [evalM, fin_v] at h
  cases e1 : evalM P Φ ρ .v c1 st with
  | stuck => rw [e1] at h; cases h
  | exn => rw [e1] at h; cases h
  | ok x st1 =>
    rw [e1] at h; simp only [R.bd_ok] at h
    cases e2 : evalM P Φ ρ .v c2 st1 with
    | stuck => rw [e2] at h; cases h
    | exn => rw [e2] at h; cases h
    | ok y st2 =>
      rw [e2] at h; simp only [R.bd_ok] at h
      cases e3 : cmpF st2 o x y with
      | none => rw [e3] at h; cases h
      | some kk =>
        rw [e3] at h; simp only [opt_some, R.bd_ok] at h
        cases kk with
        | false => simp only [Bool.false_eq_true, if_false] at h; cases h; exact ⟨_, rfl⟩
        | true =>
          simp only [if_true] at h
          cases e4 : evalM P Φ ρ .v c3 st2 with
          | stuck => rw [e4] at h; cases h
          | exn => rw [e4] at h; cases h
          | ok z st3 =>
            rw [e4] at h; simp only [R.bd_ok] at h
            cases e5 : cmpF st3 o' y z with
            | none => rw [e5] at h; cases h
            | some kk => rw [e5] at h; cases h; exact ⟨_, rfl⟩
theorem s_chain (C : CtxOk ca P k X W) {o o' : OpC} {a b c : Expr} {c1 c2 c3 : CE} {pos : Pos} (h1 : PE X a (tV P Φ ca X.K W c1)) (h2 : PE X b (tV P Φ ca X.K W c2)) (h3 : PE X c (tV P Φ ca X.K W c3)) (hm : behindInMarks (cmpOf o') c = false) :
    PE X (.Compare a [cmpOf o, cmpOf o'] [b, c] pos) (tV P Φ ca X.K W (.chain o o' c1 c2 c3)) :=
  (pe_chain (op_cmp (ca := ca) C.rm.un o) (op_cmp (ca := ca) C.rm.un o') h1 h2 h3 hm).imp fun σ H Q h => chain_data C h
theorem t_chain (C : CtxOk ca P k X W) {o o' : OpC} {a b c : Expr} {c1 c2 c3 : CE} {pos : Pos} (h1 : PE X a (tV P Φ ca X.K W c1)) (h2 : PE X b (tV P Φ ca X.K W c2)) (h3 : PE X c (tV P Φ ca X.K W c3)) (hm : behindInMarks (cmpOf o') c = false) :
    PT X (.Compare a [cmpOf o, cmpOf o'] [b, c] pos) (tT P Φ ca X.K W (.chain o o' c1 c2 c3)) :=
  (pt_chain (op_cmp (ca := ca) C.rm.un o) (op_cmp (ca := ca) C.rm.un o') h1 h2 h3 hm).imp fun σ H Q h => by
    refine chain_data C ?_
    obtain ⟨ex, ms, st, ρ, rs, sl, h⟩ := h
    have e : evalM P Φ ρ .t (.chain o o' c1 c2 c3) st = fin .t (evalM P Φ ρ .v (.chain o o' c1 c2 c3) st) := rfl
    rw [e] at h
    refine ⟨ex, ms, st, ρ, rs, sl, ?_⟩
    have bl := chain_bl (P := P) (Φ := Φ) (ρ := ρ) (o := o) (o' := o') (c1 := c1) (c2 := c2) (c3 := c3) (st := st)
    show post ca X.K (VRel ca X.K) ex ms st H (evalM P Φ ρ .v (.chain o o' c1 c2 c3) st) _ _
    revert h bl
    cases evalM P Φ ρ .v (.chain o o' c1 c2 c3) st with
    | stuck => exact fun h _ => h.elim
    | exn c vs st' => exact fun h _ => h
    | ok d st' =>
      intro h bl ms1 H1 v rs1 x1 r1
      obtain ⟨b, rfl⟩ := bl d st' rfl
      exact ⟨b, vr_bl r1, h ms1 H1 b rs1 x1 rfl⟩

def methN : MP.Meth → String
  | .append => "append" | .extend => "extend" | .pop => "pop" | .index => "index" | .count => "count"
  | .join => "join" | .split => "split" | .replace => "replace" | .upper => "upper" | .get => "get" | .items => "items" | .values => "values"
/-- a method by plain data -/
def rMt (ca : String → Option Addr) (K : PySem.W.Frag) (m : MP.Meth) : V → List V → Hp → VK → Prop := fun x vs H Q =>
  ∃ (ex ms : List Addr) (st : Store) (d : D) (ds : List D) (E : XK), RS ca K ex ms st H ∧ VRel ca K (vw ex ms st H) ms x d ∧ VRels ca K (vw ex ms st H) ms vs ds ∧ post ca K (VRel ca K) ex ms st H (methF m d ds st) Q E
theorem mt_appendD : MtR X "list.append" (rMt ca X.K .append) := by
  intro pins s σ H x vs v us Q I rx rv h
  obtain ⟨ex, ms, st, d, ds, E, rs, r1, r2, h⟩ := h
  unfold methF at h
  split at h <;> rename_i hm <;> first | cases hm | skip
  · split at h
    · rename_i xs e1
      split at h
      · rename_i hz
        obtain ⟨y, rfl, ry⟩ := r2.of1
        cases r1 with
        | own hn =>
          obtain ⟨vs', q1, q2⟩ := rs.cells _ _ _ hn e1
          refine mt_append pins s σ H _ _ v us Q I rx rv ⟨_, _, y, rfl, rfl, q1, by rw [LINE_eq, q2.length]; exact hz, ?_⟩
          obtain ⟨rs2, x2⟩ := rs.write (o := .lst (vs' ++ [y])) hn e1 rfl (d := .lst (xs ++ [_])) rfl ⟨_, upd_same, q2.append (.one ry)⟩
          exact h _ _ _ rs2 x2 .non
      · exact h.elim
    · exact h.elim
  · exact h.elim
theorem mt_joinD : MtR X "str.join" (rMt ca X.K .join) := by
  intro pins s σ H x vs v us Q I rx rv h
  obtain ⟨ex, ms, st, d, ds, E, rs, r1, r2, h⟩ := h
  unfold methF at h
  split at h <;> rename_i hm <;> first | cases hm | skip
  · obtain ⟨y, rfl, ry⟩ := r2.of1
    cases vr_str r1
    split at h
    · rename_i xs e1
      split at h
      · rename_i ys e2
        split at h
        · rename_i hz
          obtain ⟨a, vs', rfl, hq, q2⟩ := seq_rel rs ry e1
          cases strs_rel q2 e2
          exact mt_join pins s σ H _ _ v us Q I rx rv ⟨_, _, ys, rfl, rfl, hq, hz, h.here rs (.str _)⟩
        · exact h.elim
      · exact h.elim
    · exact h.elim
  · exact h.elim
theorem mt_splitD : MtR X "str.split" (rMt ca X.K .split) := by
  intro pins s σ H x vs v us Q I rx rv h
  obtain ⟨ex, ms, st, d, ds, E, rs, r1, r2, h⟩ := h
  unfold methF at h
  split at h <;> rename_i hm <;> first | cases hm | skip
  · obtain ⟨y, rfl, ry⟩ := r2.of1
    cases vr_str r1; cases vr_str ry
    split at h
    · rename_i hz
      simp only [Bool.and_eq_true, decide_eq_true_eq] at hz
      refine mt_split pins s σ H _ _ v us Q I rx rv ⟨_, _, rfl, rfl, by simpa using hz.1, by rw [LINE_eq]; exact hz.2, fun p hp => ?_⟩
      obtain ⟨rs2, x2, m2⟩ := rs.made (o := .lst _) hp
      exact h _ _ _ rs2 x2 (.lst (.inl (.inl m2)) (rels_strs _))
    · exact h.elim
  · exact h.elim
theorem mt_upperD : MtR X "str.upper" (rMt ca X.K .upper) := by
  intro pins s σ H x vs v us Q I rx rv h
  obtain ⟨ex, ms, st, d, ds, E, rs, r1, r2, h⟩ := h
  unfold methF at h
  split at h <;> rename_i hm <;> first | cases hm | skip
  · cases r2
    cases vr_str r1
    split at h
    · rename_i hz
      exact mt_upper pins s σ H _ _ v us Q I rx rv ⟨_, rfl, rfl, hz, h.here rs (.str _)⟩
    · exact h.elim
  · exact h.elim
theorem recv_ty {m : MP.Meth} {ex ms : List Addr} {st : Store} {H : Hp} {v : V} {d : D} (rs : RS ca X.K ex ms st H) (r : VRel ca X.K (vw ex ms st H) ms v d) (h : recvOk m d st = true) : tyV X.K (methT m) v H := by
  unfold recvOk at h
  split at h
  · cases vr_str r; exact beq_iff_eq.mp h
  · cases r with
    | lst q1 q2 => exact .inl ⟨beq_iff_eq.mp h, _, Same.seqL vw_le q1⟩
  · split at h
    · rename_i xs e
      cases r with
      | own hn =>
        obtain ⟨vs, q1, q2⟩ := rs.cells _ _ _ hn e
        exact .inl ⟨beq_iff_eq.mp h, _, .inl (.inl q1)⟩
    · rename_i xs e
      cases r with
      | own hn =>
        obtain ⟨vs, q1, q2⟩ := rs.cells _ _ _ hn e
        exact .inr (.inr (.inl ⟨beq_iff_eq.mp h, .inl ⟨_, q1⟩⟩))
    · cases h
  · cases h
/-- o.m(e, ..) of a list or a text -/
theorem s_bm {m : MP.Meth} {id : String} (pa : PlainAttrs (methT m)) (slot : Slot (methT m) (nmS (methN m)) id) (hty : typeOf (.builtin id) = pure (.type "method_descriptor")) (hm : MtR X id (rMt ca X.K m))
    {o e : Expr} {es : List Expr} {c : CE} {cs : List CE} {apos pos : Pos} (ho : PE X o (tV P Φ ca X.K W c)) (ha : PA X (e :: es) (tAs P Φ ca X.K W cs)) (hn : noSup o = true) (hs : (e :: es).all noStar = true) (hl : (e :: es).length < 30) (hline : (apos.endLine == pos.line) = true) :
    PE X (.Call (.Attribute o (nmS (methN m)) apos) (e :: es) [] pos) (tV P Φ ca X.K W (.meth m c cs)) := by
  have few := few_args (env := X.env) (pos := pos) hs
  have hs' := hs
  rw [List.all_cons, Bool.and_eq_true] at hs'
  refine (pe_bm pa slot hty hm ho ha (att_base hn) ?_ hline (star_each hs'.1) (star_any hs'.2)).imp fun σ H Q h => ?_
  · rw [few]
    simp only [keywordEach, backToKw, List.map_nil, List.all_nil, List.length_nil, List.isEmpty_nil, if_true, Nat.add_zero, Bool.true_and, decide_eq_true_eq]
    exact hl
  · obtain ⟨ex, ms, st, ρ, rs, sl, h⟩ := h
    simp only [evalM, fin_v] at h
    refine ⟨ex, ms, st, ρ, rs, sl, h.bd fun d st1 ms1 H1 v rs1 x1 r1 h1 => ?_⟩
    split at h1
    · rename_i ok
      refine ⟨recv_ty rs1 r1 ok, ex, ms1, st1, ρ, rs1, sl.mono x1.same x1.pre, h1.bd fun ds st2 ms2 H2 vs rs2 x2 r2 h2 => ⟨ex, ms2, st2, d, ds, _, rs2, r1.mono x2.same x2.pre, r2, h2⟩⟩
    · exact h1.elim
theorem s_bm0 {m : MP.Meth} {id : String} (pa : PlainAttrs (methT m)) (slot : Slot (methT m) (nmS (methN m)) id) (hty : typeOf (.builtin id) = pure (.type "method_descriptor")) (hm : MtR X id (rMt ca X.K m))
    {o : Expr} {c : CE} {apos pos : Pos} (ho : PE X o (tV P Φ ca X.K W c)) (hn : noSup o = true) (hline : (apos.endLine == pos.line) = true) :
    PE X (.Call (.Attribute o (nmS (methN m)) apos) [] [] pos) (tV P Φ ca X.K W (.meth m c [])) := by
  refine (pe_bm0 pa slot hty hm ho (att_base hn) hline).imp fun σ H Q h => ?_
  obtain ⟨ex, ms, st, ρ, rs, sl, h⟩ := h
  simp only [evalM, fin_v, evalEs, R.bd_ok] at h
  refine ⟨ex, ms, st, ρ, rs, sl, h.bd fun d st1 ms1 H1 v rs1 x1 r1 h1 => ?_⟩
  split at h1
  · rename_i ok
    exact ⟨recv_ty rs1 r1 ok, ex, ms1, st1, d, [], _, rs1, r1, .nil, h1⟩
  · exact h1.elim
/-- which methods are served -/
def methOk : MP.Meth → Bool
  | .append => true | .join => true | .split => true | .upper => true | _ => false
theorem s_meth {m : MP.Meth} (ok : methOk m = true)
    {o e : Expr} {es : List Expr} {c : CE} {cs : List CE} {apos pos : Pos} (ho : PE X o (tV P Φ ca X.K W c)) (ha : PA X (e :: es) (tAs P Φ ca X.K W cs)) (hn : noSup o = true) (hs : (e :: es).all noStar = true) (hl : (e :: es).length < 30) (hline : (apos.endLine == pos.line) = true) :
    PE X (.Call (.Attribute o (nmS (methN m)) apos) (e :: es) [] pos) (tV P Φ ca X.K W (.meth m c cs)) := by
  cases m with
  | append => exact s_bm (m := .append) F.plainAttrs_list F.slot_list_append F.type_list_append mt_appendD ho ha hn hs hl hline
  | join => exact s_bm (m := .join) F.plainAttrs_str F.slot_str_join F.type_str_join mt_joinD ho ha hn hs hl hline
  | split => exact s_bm (m := .split) F.plainAttrs_str F.slot_str_split F.type_str_split mt_splitD ho ha hn hs hl hline
  | upper => exact s_bm (m := .upper) F.plainAttrs_str F.slot_str_upper F.type_str_upper mt_upperD ho ha hn hs hl hline
  | _ => cases ok
theorem s_meth0 {m : MP.Meth} (ok : methOk m = true) {o : Expr} {c : CE} {apos pos : Pos} (ho : PE X o (tV P Φ ca X.K W c)) (hn : noSup o = true) (hline : (apos.endLine == pos.line) = true) :
    PE X (.Call (.Attribute o (nmS (methN m)) apos) [] [] pos) (tV P Φ ca X.K W (.meth m c [])) := by
  cases m with
  | append => exact s_bm0 (m := .append) F.plainAttrs_list F.slot_list_append F.type_list_append mt_appendD ho hn hline
  | join => exact s_bm0 (m := .join) F.plainAttrs_str F.slot_str_join F.type_str_join mt_joinD ho hn hline
  | split => exact s_bm0 (m := .split) F.plainAttrs_str F.slot_str_split F.type_str_split mt_splitD ho hn hline
  | upper => exact s_bm0 (m := .upper) F.plainAttrs_str F.slot_str_upper F.type_str_upper mt_upperD ho hn hline
  | _ => cases ok

def tyName : Ty → String
  | .int => "int" | .bool => "bool" | .str => "str" | .tuple => "tuple" | .list => "list" | .dict => "dict" | .own c => c
def tyV' (ca : String → Option Addr) : Ty → Value
  | .int => .type "int" | .bool => .type "bool" | .str => .type "str" | .tuple => .type "tuple" | .list => .type "list" | .dict => .type "dict"
  | .own c => .ref ((ca c).getD 0)
def tyW (ca : String → Option Addr) : Ty → V
  | .int => .ty "int" | .bool => .ty "bool" | .str => .ty "str" | .tuple => .ty "tuple" | .list => .ty "list" | .dict => .ty "dict"
  | .own c => .ref ((ca c).getD 0)
theorem ty_cls (t : Ty) : ClsV (tyW ca t) (tyV' ca t) := by cases t <;> first | exact .ty _ | exact .own _
theorem ty_name (G : GOk ca P X.prog X.w X.K X.mg X.base Φ k) {t : Ty} {pos : Pos} (ht : tyOk P t = true) (hg : L2.Gl X (nmS (tyName t))) (hd : (nmS (tyName t) == ("__debug__" : Str)) = false) : PE X (.Name (nmS (tyName t)) pos) (tC (tyW ca t)) := by
  have b : ∀ x : String, x ∈ bltNames → bootBuiltins (nmS x) = some (.type x) → nmS x ≠ "__name__" → L2.Gl X (nmS x) → (nmS x == ("__debug__" : Str)) = false → PE X (.Name (nmS x) pos) (tC (.ty x)) := fun x h1 h2 h3 h4 h5 => pe_bltn h4 (G.blt x h1) h2 rfl h3 h5
  cases t with
  | int => exact b "int" (by decide) (by decide +kernel) (by decide +kernel) hg hd
  | bool => exact b "bool" (by decide) (by decide +kernel) (by decide +kernel) hg hd
  | str => exact b "str" (by decide) (by decide +kernel) (by decide +kernel) hg hd
  | tuple => exact b "tuple" (by decide) (by decide +kernel) (by decide +kernel) hg hd
  | list => exact b "list" (by decide) (by decide +kernel) (by decide +kernel) hg hd
  | dict => exact b "dict" (by decide) (by decide +kernel) (by decide +kernel) hg hd
  | own c =>
    obtain ⟨kc, ek⟩ := Option.isSome_iff_exists.mp ht
    obtain ⟨C1, hc, hm, _⟩ := G.cls c kc ek
    refine pe_glob hg hm ?_ hd
    show Value.ref C1 = Value.ref ((ca c).getD 0)
    rw [hc]; rfl
/-- a thing's type, and what isinstance answers -/
theorem ty_data (G : GOk ca P X.prog X.w X.K X.mg X.base Φ k) {ex ms : List Addr} {st : Store} {H : Hp} {v : V} {d : D} (hcl : ∀ c, classOf st d = some c → (P.cl c).isSome = true) (rs : RS ca X.K ex ms st H) (r : VRel ca X.K (vw ex ms st H) ms v d) (hs : ∃ t, (isTy d t st).isSome = true) :
    ∃ tv, TyX X.K H v tv ∧ ∀ t b, tyOk P t = true → isTy d t st = some b → PySem.W.kitOne X.K tv (tyV' ca t) = some b := by
  have base : ∀ (ty : String), ty ∈ isTys → ∀ t, (∀ c, t = .own c → tyOk P t = true → PySem.W.kitOne X.K (.type ty) (tyV' ca t) = some false) := by
    intro ty hty t c ht hok
    subst ht
    obtain ⟨kc, ek⟩ := Option.isSome_iff_exists.mp hok
    obtain ⟨C1, hc, _⟩ := G.cls c kc ek
    have e : tyV' ca (.own c) = .ref C1 := by show Value.ref ((ca c).getD 0) = _; rw [hc]; rfl
    rw [e]
    exact ((G.isF c kc C1 ek hc).2.2 ty hty).1
  have fin : ∀ (ty : String) (f : Ty → Bool), ty ∈ isTys → (∀ c, f (.own c) = false) → (∀ t, (∀ c, t ≠ .own c) → PySem.W.kitOne X.K (.type ty) (tyV' ca t) = some (f t)) → ∀ t b, tyOk P t = true → some (f t) = some b → PySem.W.kitOne X.K (.type ty) (tyV' ca t) = some b := by
    intro ty f hty h1 h2 t b hok e
    cases e
    cases t with
    | own c => rw [h1 c]; exact base ty hty _ c rfl hok
    | _ => exact h2 _ (fun c z => by cases z)
  have inst : ∀ (c : String) (C : Addr), ca c = some C → (P.cl c).isSome = true → ∀ t b, tyOk P t = true → some (match t with | .own c' => decide (c = c') | _ => false) = some b → PySem.W.kitOne X.K (.ref C) (tyV' ca t) = some b := by
    intro c C hc hcl t b hok e
    obtain ⟨kc, ek⟩ := Option.isSome_iff_exists.mp hcl
    cases e
    cases t with
    | own c' =>
      obtain ⟨kc', ek'⟩ := Option.isSome_iff_exists.mp hok
      obtain ⟨C', hc', _⟩ := G.cls c' kc' ek'
      have e : tyV' ca (.own c') = .ref C' := by show Value.ref ((ca c').getD 0) = _; rw [hc']; rfl
      rw [e]
      exact G.isC c c' C C' hcl hok hc hc'
    | int => exact ((G.isF c kc C ek hc).2.2 "int" (by decide)).2
    | bool => exact ((G.isF c kc C ek hc).2.2 "bool" (by decide)).2
    | str => exact ((G.isF c kc C ek hc).2.2 "str" (by decide)).2
    | tuple => exact ((G.isF c kc C ek hc).2.2 "tuple" (by decide)).2
    | list => exact ((G.isF c kc C ek hc).2.2 "list" (by decide)).2
    | dict => exact ((G.isF c kc C ek hc).2.2 "dict" (by decide)).2
  have insT : ∀ (c : String) (C a dx : Addr) (fs : List (Str × V)), ca c = some C → (P.cl c).isSome = true → H a = some (.ins C dx fs) → TyX X.K H (.ref a) (.ref C) := by
    intro c C a dx fs hc hcl hH
    obtain ⟨kc, ek⟩ := Option.isSome_iff_exists.mp hcl
    obtain ⟨C', hc', _, cl, _⟩ := G.cls c kc ek
    rw [hc] at hc'; cases hc'
    obtain ⟨g1, g2⟩ := G.isG ⟨c, hcl⟩
    obtain ⟨f1, f2, _⟩ := G.isF c kc C ek hc
    exact .base (.ins hH cl f1 g1 g2 f2)
  cases r with
  | non => exact ⟨_, .base .non, fin "NoneType" (fun _ => false) (by decide) (fun _ => rfl) (fun t ht => by cases t <;> first | exact kit_ty (by decide +kernel) | exact absurd rfl (ht _))⟩
  | bl x => exact ⟨_, .base (.bl x), fin "bool" (fun t => match t with | .bool => true | .int => true | _ => false) (by decide) (fun _ => rfl) (fun t ht => by cases t <;> first | exact kit_ty (by decide +kernel) | exact absurd rfl (ht _))⟩
  | int i => exact ⟨_, .base (.int i), fin "int" (fun t => match t with | .int => true | _ => false) (by decide) (fun _ => rfl) (fun t ht => by cases t <;> first | exact kit_ty (by decide +kernel) | exact absurd rfl (ht _))⟩
  | str x => exact ⟨_, .base (.str x), fin "str" (fun t => match t with | .str => true | _ => false) (by decide) (fun _ => rfl) (fun t ht => by cases t <;> first | exact kit_ty (by decide +kernel) | exact absurd rfl (ht _))⟩
  | tup h q =>
    refine ⟨.type "tuple", ?_, fin "tuple" (fun t => match t with | .tuple => true | _ => false) (by decide) (fun _ => rfl) (fun t ht => by cases t <;> first | exact kit_ty (by decide +kernel) | exact absurd rfl (ht _))⟩
    rcases Same.seqT vw_le h with (h | ⟨o, h⟩) | ⟨o, its, n, hk, hc, _⟩
    · exact .base (.tup h)
    · exact .fTuple h
    · exact .kTuple hk hc
  | lst h q =>
    refine ⟨.type "list", ?_, fin "list" (fun t => match t with | .list => true | _ => false) (by decide) (fun _ => rfl) (fun t ht => by cases t <;> first | exact kit_ty (by decide +kernel) | exact absurd rfl (ht _))⟩
    rcases Same.seqL vw_le h with (h | ⟨o, h⟩) | ⟨o, its, n, hk, hc, _⟩
    · exact .base (.lst h)
    · exact .base (.frz h)
    · exact .kList hk hc
  | obj hc h hn q =>
    rename_i c fs ns ds
    exact ⟨_, insT _ _ _ _ _ hc (hcl _ rfl) (vw_le _ _ h), inst _ _ hc (hcl _ rfl)⟩
  | own hn =>
    rename_i n a
    obtain ⟨t0, hs⟩ := hs
    cases e : st[n]? with
    | none => simp [isTy, e] at hs
    | some c =>
      cases c with
      | lst xs =>
        obtain ⟨vs, q1, q2⟩ := rs.cells _ _ _ hn e
        refine ⟨.type "list", .base (.lst q1), ?_⟩
        simp only [isTy, e]
        exact fin "list" (fun t => match t with | .list => true | _ => false) (by decide) (fun _ => rfl) (fun t ht => by cases t <;> first | exact kit_ty (by decide +kernel) | exact absurd rfl (ht _))
      | dct kvs =>
        obtain ⟨vs, q1, q2⟩ := rs.cells _ _ _ hn e
        refine ⟨.type "dict", .base (.dK q1), ?_⟩
        simp only [isTy, e]
        exact fin "dict" (fun t => match t with | .dict => true | _ => false) (by decide) (fun _ => rfl) (fun t ht => by cases t <;> first | exact kit_ty (by decide +kernel) | exact absurd rfl (ht _))
      | ins c fs =>
        obtain ⟨C, dx, vs, q0, q1, q2, q3⟩ := rs.cells _ _ _ hn e
        have hh := hcl c (by simp only [classOf, e])
        refine ⟨_, insT _ _ _ _ _ q0 hh q1, ?_⟩
        simp only [isTy, e]
        exact inst _ _ q0 hh
      | dead => simp [isTy, e] at hs
end
end MP
end

section
set_option linter.all false
set_option autoImplicit false
set_option maxHeartbeats 1000000
namespace MP
open PySem L2 PyProof.Rows
section
variable {P : Prog} {Φ : Calls} {ca : String → Option Addr} {k : Nat} {X : Cx} {W : WX}
theorem any_kit {tv : Value} {d : D} {st : Store} (h : ∀ t b, tyOk P t = true → isTy d t st = some b → PySem.W.kitOne X.K tv (tyV' ca t) = some b) : ∀ (ts : List Ty) (b : Bool), ts.all (tyOk P) = true → anyTy d st ts = some b → PySem.W.kitAny X.K tv (ts.map (tyV' ca)) = some b
  | [], b, _, e => by simp only [anyTy, Option.some.injEq] at e; subst e; rfl
  | t :: ts, b, hk, e => by
    rw [List.all_cons, Bool.and_eq_true] at hk
    simp only [anyTy] at e
    split at e
    · rename_i e1
      cases e
      exact kitAny_cons (h t true hk.1 e1) (fun z => by cases z) (fun _ => rfl)
    · rename_i e1
      exact kitAny_cons (h t false hk.1 e1) (fun _ => any_kit h ts b hk.2 e) (fun z => by cases z)
    · cases e
theorem any_some {d : D} {st : Store} : ∀ {ts : List Ty} {b : Bool}, ts ≠ [] → anyTy d st ts = some b → ∃ t, (isTy d t st).isSome = true
  | [], _, h, _ => absurd rfl h
  | t :: ts, b, _, e => by
    simp only [anyTy] at e
    split at e
    · rename_i e1; exact ⟨t, by rw [e1]; rfl⟩
    · rename_i e1; exact ⟨t, by rw [e1]; rfl⟩
    · cases e
theorem tys_cls : ∀ ts : List Ty, Paired ClsV (ts.map (tyW ca)) (ts.map (tyV' ca))
  | [] => .nil
  | t :: ts => .cons (ty_cls t) (tys_cls ts)
theorem pa_tys (G : GOk ca P X.prog X.w X.K X.mg X.base Φ k) : ∀ {ts : List Ty} {es : List Expr}, ts.all (tyOk P) = true → Paired (fun e t => ∃ pos, e = .Name (nmS (tyName t)) pos ∧ L2.Gl X (nmS (tyName t)) ∧ (nmS (tyName t) == ("__debug__" : Str)) = false) es ts →
    PA X es (fun σ H Q => Q (ts.map (tyW ca)) H)
  | [], _, _, .nil => pa_nil
  | t :: ts, _, h, .cons ⟨pos, e, hg, hd⟩ r => by
    rw [List.all_cons, Bool.and_eq_true] at h
    subst e
    exact (pa_cons (ty_name G h.1 hg hd) (pa_tys G h.2 r) rfl).imp fun σ H Q q => q
theorem s_isi (C : CtxOk ca P k X W) (G : GOk ca P X.prog X.w X.K X.mg X.base Φ k) {a te : Expr} {c : CE} {ts : List Ty} {pp pos : Pos} (hg : L2.Gl X (nmS "isinstance")) (ha : PE X a (tV P Φ ca X.K W c)) (hn : noStar a = true)
    (ht : (∃ t pos', ts = [t] ∧ te = .Name (nmS (tyName t)) pos' ∧ L2.Gl X (nmS (tyName t)) ∧ (nmS (tyName t) == ("__debug__" : Str)) = false) ∨
      (∃ es j pos', ts ≠ [] ∧ te = .Tuple es j pos' ∧ ts.length ≤ 1000 ∧ Paired (fun e t => ∃ pos, e = .Name (nmS (tyName t)) pos ∧ L2.Gl X (nmS (tyName t)) ∧ (nmS (tyName t) == ("__debug__" : Str)) = false) es ts)) :
    PE X (.Call (.Name (nmS "isinstance") pp) [a, te] [] pos) (tV P Φ ca X.K W (.isi c ts)) := by
  have hm := G.blt "isinstance" (by decide)
  by_cases hok : ts.all (tyOk P) = true
  · have hv : bootBuiltins (nmS "isinstance") = some (.builtin "isinstance") := by decide +kernel
    have h1 : nmS "isinstance" ≠ "__name__" := by decide +kernel
    have h2 : (nmS "isinstance" == ("__debug__" : Str)) = false := by decide +kernel
    have known : ∀ {d : D} {st : Store}, clsKnown P d st = true → ∀ c, classOf st d = some c → (P.cl c).isSome = true := fun {d st} q c e => by
      unfold clsKnown at q; rw [e] at q; exact q
    rcases ht with ⟨t, pos', rfl, rfl, hg', hd'⟩ | ⟨es, j, pos', hne, rfl, hlen, r⟩
    · have ht1 : tyOk P t = true := by simpa using hok
      refine (pe_callB call_isi hg hm hv (pa_cons ha (pa_cons (ty_name G ht1 hg' hd') pa_nil rfl) (star_each hn)) h1 h2 (star_each hn) rfl).imp fun σ H Q h => ?_
      obtain ⟨ex, ms, st, ρ, rs, sl, h⟩ := h
      simp only [evalM, hok, if_true, fin_v] at h
      refine ⟨ex, ms, st, ρ, rs, sl, h.bd fun d st1 ms1 H1 v rs1 x1 r1 h1 => ?_⟩
      split at h1
      · rename_i hk
        obtain ⟨d', e1, h1⟩ := h1.opt
        simp only [Option.map_eq_some_iff] at e1
        obtain ⟨b, e1, rfl⟩ := e1
        obtain ⟨tv, q1, q2⟩ := ty_data G (known hk) rs1 r1 (any_some (by simp) e1)
        have e2 : isTy d t st1 = some b := by
          simp only [anyTy] at e1
          split at e1
          · rename_i z; rw [z]; exact e1
          · rename_i z; rw [z]; exact e1
          · cases e1
        exact ⟨v, tyW ca t, tv, tyV' ca t, b, rfl, ty_cls t, q1, q2 t b ht1 e2, h1.here rs1 (.bl b)⟩
      · exact h1.elim
    · refine (pe_callB call_isiT hg hm hv (pa_cons ha (pa_cons (pe_tup (pa_tys G hok r)) pa_nil rfl) (star_each hn)) h1 h2 (star_each hn) rfl).imp fun σ H Q h => ?_
      obtain ⟨ex, ms, st, ρ, rs, sl, h⟩ := h
      simp only [evalM, hok, if_true, fin_v] at h
      refine ⟨ex, ms, st, ρ, rs, sl, h.bd fun d st1 ms1 H1 v rs1 x1 r1 h1 => ?_⟩
      refine ⟨by rw [List.length_map]; exact Nat.le_trans hlen (by rw [LINE_eq]; decide), fun p hp => ?_⟩
      split at h1
      · rename_i hk
        obtain ⟨d', e1, h1⟩ := h1.opt
        simp only [Option.map_eq_some_iff] at e1
        obtain ⟨b, e1, rfl⟩ := e1
        obtain ⟨rs2, x2, m2⟩ := rs1.made (o := .tup (ts.map (tyW ca))) hp
        obtain ⟨tv, q1, q2⟩ := ty_data G (known hk) rs2 (r1.mono x2.same x2.pre) (any_some hne e1)
        refine ⟨v, p, _, tv, ts.map (tyV' ca), b, rfl, upd_same, tys_cls ts, q1, any_kit q2 ts b hok e1, ?_⟩
        exact h1 _ _ _ rs2 x2 (.bl b)
      · exact h1.elim
  · refine PE.no.imp fun σ H Q h => ?_
    obtain ⟨ex, ms, st, ρ, rs, sl, h⟩ := h
    simp only [evalM, if_neg hok] at h
    exact h

theorem s_fmt {e : Expr} {c : CE} {pos : Pos} (he : PE X e (tV P Φ ca X.K W c)) : PE X (.FormattedValue e (-1) none pos) (tV P Φ ca X.K W (.fmt c)) :=
  (pe_fmt he).imp fun σ H Q h => by
    obtain ⟨ex, ms, st, ρ, rs, sl, h⟩ := h
    simp only [evalM, fin_v] at h
    refine ⟨ex, ms, st, ρ, rs, sl, h.bd fun d st1 ms1 H1 v rs1 x1 r1 h1 => ?_⟩
    obtain ⟨d', e1, h2⟩ := h1.opt
    clear h1
    simp only [Option.map_eq_some_iff] at e1
    obtain ⟨t, e1, rfl⟩ := e1
    unfold fmtF at e1
    split at e1
    · split at e1
      · rename_i hz
        cases e1; cases vr_str r1
        exact .inl ⟨_, rfl, by rw [LINE_eq]; exact hz, h2.here rs1 (VRel.str _)⟩
      · cases e1
    · split at e1
      · rename_i hz
        cases e1; cases vr_int r1
        exact .inr ⟨_, rfl, hz, h2.here rs1 (VRel.str _)⟩
      · cases e1
    · cases e1
theorem tjs_data : ∀ (cs : List CE) (acc : Str) (σ : L2.St) (H : Hp) (Q : VK) (ex ms : List Addr) (st : Store) (ρ : MP.Env), RS ca X.K ex ms st H → SlotRel ca X.K (vw ex ms st H) ms σ ρ →
    post ca X.K (VRel ca X.K) ex ms st H (evalFs P Φ ρ cs acc st) Q (WE' W σ) → tJs (cs.map (tV P Φ ca X.K W)) acc σ H fun out H1 => Q (.str out) H1
  | [], acc, σ, H, Q, ex, ms, st, ρ, rs, sl, h => by
    simp only [evalFs] at h
    exact h.here rs (VRel.str _)
  | c :: cs, acc, σ, H, Q, ex, ms, st, ρ, rs, sl, h => by
    simp only [evalFs] at h
    refine ⟨ex, ms, st, ρ, rs, sl, h.bd fun d st1 ms1 H1 v rs1 x1 r1 h1 => ?_⟩
    unfold partK at h1
    split at h1
    · split at h1
      · rename_i y hz
        exact ⟨y, vr_str r1, by rw [LINE_eq]; exact hz, tjs_data cs _ σ H1 Q ex ms1 st1 ρ rs1 (sl.mono x1.same x1.pre) h1⟩
      · exact h1.elim
    · exact h1.elim
theorem pj_all : ∀ {es : List Expr} {cs : List CE}, Paired (fun e c => PE X e (tV P Φ ca X.K W c)) es cs → PJ X es (cs.map (tV P Φ ca X.K W))
  | _, _, .nil => .nil
  | _, _, .cons h r => .cons h (pj_all r)
theorem s_fstr {e1 e2 : Expr} {es : List Expr} {cs : List CE} {pos : Pos} (h : Paired (fun e c => PE X e (tV P Φ ca X.K W c)) (e1 :: e2 :: es) cs) : PE X (.JoinedStr (e1 :: e2 :: es) pos) (tV P Φ ca X.K W (.fstr cs)) :=
  (pe_joined (pj_all h)).imp fun σ H Q h => by
    obtain ⟨ex, ms, st, ρ, rs, sl, h⟩ := h
    simp only [evalM, fin_v] at h
    exact tjs_data cs Str.empty σ H Q ex ms st ρ rs sl h
end
end MP
end

section
set_option linter.all false
set_option autoImplicit false
set_option maxHeartbeats 1000000
namespace MP
open PySem L2 PyProof.Rows

section
variable {P : Prog} {Φ : Calls} {ca : String → Option Addr} {k : Nat} {X : Cx} {W : WX}

/-- the iterator gives xs, as long as gs stays -/
def JOk (ca : String → Option Addr) (K : PySem.W.Frag) (F : Hp) (ms : List Addr) (gs xs : List D) (J : It) : Prop :=
  ∀ (ex' ms' : List Addr) (st' : Store) (H' : Hp) (i : Nat), RS ca K ex' ms' st' H' → Same F (vw ex' ms' st' H') → ms <+: ms' → guardOk st' gs = true →
    i ≤ xs.length → match xs[i]? with
    | none => J.stop i H'
    | some d => J.go i H' ∧ ∀ v H'', J.yld i H' v H'' → RS ca K ex' ms' st' H'' ∧ Ext ex' ms' st' H' ms' st' H'' ∧ VRel ca K (vw ex' ms' st' H'') ms' v d
def relI (ca : String → Option Addr) (K : PySem.W.Frag) : Hp → List Addr → It → D → Prop := fun F ms J d => ∃ xs gs, d = packI (xs, gs) ∧ JOk ca K F ms gs xs J
def tI (P : Prog) (Φ : Calls) (ca : String → Option Addr) (K : PySem.W.Frag) (W : WX) (c : CE) : TI := fun σ H R => G ca K σ H fun ex ms st ρ => post ca K (relI ca K) ex ms st H (evalM P Φ ρ .i c st) R (WE' W σ)

mutual
theorem beq_eq : ∀ {a b : D}, D.beq a b = true → a = b
  | .non, .non, _ => rfl
  | .bl a, .bl b, h => by simp only [D.beq, beq_iff_eq] at h; rw [h]
  | .int a, .int b, h => by simp only [D.beq, beq_iff_eq] at h; rw [h]
  | .str a, .str b, h => by simp only [D.beq, beq_iff_eq] at h; rw [h]
  | .tup a, .tup b, h => by simp only [D.beq] at h; rw [beqs_eq h]
  | .lst a, .lst b, h => by simp only [D.beq] at h; rw [beqs_eq h]
  | .obj c ns vs, .obj c' ns' vs', h => by
    simp only [D.beq, Bool.and_eq_true, beq_iff_eq] at h
    rw [h.1.1, h.1.2, beqs_eq h.2]
  | .own a, .own b, h => by simp only [D.beq, beq_iff_eq] at h; rw [h]
  | .cls a, .cls b, h => by simp only [D.beq, beq_iff_eq] at h; rw [h]
  | .non, .bl _, h => by simp [D.beq] at h
  | .non, .int _, h => by simp [D.beq] at h
  | .non, .str _, h => by simp [D.beq] at h
  | .non, .tup _, h => by simp [D.beq] at h
  | .non, .lst _, h => by simp [D.beq] at h
  | .non, .obj _ _ _, h => by simp [D.beq] at h
  | .non, .own _, h => by simp [D.beq] at h
  | .non, .cls _, h => by simp [D.beq] at h
  | .bl _, .non, h => by simp [D.beq] at h
  | .bl _, .int _, h => by simp [D.beq] at h
  | .bl _, .str _, h => by simp [D.beq] at h
  | .bl _, .tup _, h => by simp [D.beq] at h
  | .bl _, .lst _, h => by simp [D.beq] at h
  | .bl _, .obj _ _ _, h => by simp [D.beq] at h
  | .bl _, .own _, h => by simp [D.beq] at h
  | .bl _, .cls _, h => by simp [D.beq] at h
  | .int _, .non, h => by simp [D.beq] at h
  | .int _, .bl _, h => by simp [D.beq] at h
  | .int _, .str _, h => by simp [D.beq] at h
  | .int _, .tup _, h => by simp [D.beq] at h
  | .int _, .lst _, h => by simp [D.beq] at h
  | .int _, .obj _ _ _, h => by simp [D.beq] at h
  | .int _, .own _, h => by simp [D.beq] at h
  | .int _, .cls _, h => by simp [D.beq] at h
  | .str _, .non, h => by simp [D.beq] at h
  | .str _, .bl _, h => by simp [D.beq] at h
  | .str _, .int _, h => by simp [D.beq] at h
  | .str _, .tup _, h => by simp [D.beq] at h
  | .str _, .lst _, h => by simp [D.beq] at h
  | .str _, .obj _ _ _, h => by simp [D.beq] at h
  | .str _, .own _, h => by simp [D.beq] at h
  | .str _, .cls _, h => by simp [D.beq] at h
  | .tup _, .non, h => by simp [D.beq] at h
  | .tup _, .bl _, h => by simp [D.beq] at h
  | .tup _, .int _, h => by simp [D.beq] at h
  | .tup _, .str _, h => by simp [D.beq] at h
  | .tup _, .lst _, h => by simp [D.beq] at h
  | .tup _, .obj _ _ _, h => by simp [D.beq] at h
  | .tup _, .own _, h => by simp [D.beq] at h
  | .tup _, .cls _, h => by simp [D.beq] at h
  | .lst _, .non, h => by simp [D.beq] at h
  | .lst _, .bl _, h => by simp [D.beq] at h
  | .lst _, .int _, h => by simp [D.beq] at h
  | .lst _, .str _, h => by simp [D.beq] at h
  | .lst _, .tup _, h => by simp [D.beq] at h
  | .lst _, .obj _ _ _, h => by simp [D.beq] at h
  | .lst _, .own _, h => by simp [D.beq] at h
  | .lst _, .cls _, h => by simp [D.beq] at h
  | .obj _ _ _, .non, h => by simp [D.beq] at h
  | .obj _ _ _, .bl _, h => by simp [D.beq] at h
  | .obj _ _ _, .int _, h => by simp [D.beq] at h
  | .obj _ _ _, .str _, h => by simp [D.beq] at h
  | .obj _ _ _, .tup _, h => by simp [D.beq] at h
  | .obj _ _ _, .lst _, h => by simp [D.beq] at h
  | .obj _ _ _, .own _, h => by simp [D.beq] at h
  | .obj _ _ _, .cls _, h => by simp [D.beq] at h
  | .own _, .non, h => by simp [D.beq] at h
  | .own _, .bl _, h => by simp [D.beq] at h
  | .own _, .int _, h => by simp [D.beq] at h
  | .own _, .str _, h => by simp [D.beq] at h
  | .own _, .tup _, h => by simp [D.beq] at h
  | .own _, .lst _, h => by simp [D.beq] at h
  | .own _, .obj _ _ _, h => by simp [D.beq] at h
  | .own _, .cls _, h => by simp [D.beq] at h
  | .cls _, .non, h => by simp [D.beq] at h
  | .cls _, .bl _, h => by simp [D.beq] at h
  | .cls _, .int _, h => by simp [D.beq] at h
  | .cls _, .str _, h => by simp [D.beq] at h
  | .cls _, .tup _, h => by simp [D.beq] at h
  | .cls _, .lst _, h => by simp [D.beq] at h
  | .cls _, .obj _ _ _, h => by simp [D.beq] at h
  | .cls _, .own _, h => by simp [D.beq] at h
theorem beqs_eq : ∀ {a b : List D}, D.beqs a b = true → a = b
  | [], [], _ => rfl
  | a :: as, b :: bs, h => by
    simp only [D.beqs, Bool.and_eq_true] at h
    rw [beq_eq h.1, beqs_eq h.2]
  | [], _ :: _, h => by simp [D.beqs] at h
  | _ :: _, [], h => by simp [D.beqs] at h
end
theorem guardOk_append {st : Store} : ∀ {gs gs' : List D}, guardOk st (gs ++ gs') = true → guardOk st gs = true ∧ guardOk st gs' = true
  | [], _, h => ⟨rfl, h⟩
  | g :: gs, gs', h => by
    rw [List.cons_append] at h
    unfold guardOk at h
    split at h
    · simp at *
    · rename_i n ds r e
      obtain ⟨rfl, rfl⟩ := List.cons.inj e
      rw [Bool.and_eq_true] at h
      obtain ⟨h1, h2⟩ := guardOk_append h.2
      refine ⟨?_, h2⟩
      unfold guardOk
      rw [Bool.and_eq_true]
      exact ⟨h.1, h1⟩
    · cases h

/-- a list or a tuple in a heap, by which -/
def SqB (K : PySem.W.Frag) (b : Bool) (H : Hp) (a : Addr) (vs : List V) : Prop := if b = true then SqL K H a vs else SqT K H a vs
/-- what is walked, at a later state -/
theorem iter_src {ex ms : List Addr} {st : Store} {H : Hp} (rs : RS ca X.K ex ms st H) {v : V} {d : D} {xs gs : List D} (r : VRel ca X.K (vw ex ms st H) ms v d) (e : iterOf st d = some (xs, gs)) :
    (∃ (b : Bool) (a : Addr), v = .ref a ∧ (∃ vs, SqB X.K b H a vs) ∧ ∀ (ex' ms' : List Addr) (st' : Store) (H' : Hp), RS ca X.K ex' ms' st' H' → Same (vw ex ms st H) (vw ex' ms' st' H') → ms <+: ms' → guardOk st' gs = true → ∃ vs, SqB X.K b H' a vs ∧ VRels ca X.K (vw ex' ms' st' H') ms' vs xs) ∨
      ∃ s, v = .str s ∧ xs = signsOf s := by
  cases r with
  | tup h r =>
    cases e
    exact .inl ⟨false, _, rfl, ⟨_, Same.seqT vw_le h⟩, fun ex' ms' st' H' rs' sm pr _ => ⟨_, Same.seqT (fun a o q => vw_le a o (sm a o q)) h, r.mono sm pr⟩⟩
  | lst h r =>
    cases e
    exact .inl ⟨true, _, rfl, ⟨_, Same.seqL vw_le h⟩, fun ex' ms' st' H' rs' sm pr _ => ⟨_, Same.seqL (fun a o q => vw_le a o (sm a o q)) h, r.mono sm pr⟩⟩
  | str s => cases e; exact .inr ⟨s, rfl, rfl⟩
  | own h =>
    simp only [iterOf] at e
    split at e
    · rename_i ys e2
      cases e
      refine .inl ⟨true, _, rfl, ?_, fun ex' ms' st' H' rs' sm pr g => ?_⟩
      · obtain ⟨vs, h1, h2⟩ := rs.cells _ _ _ h e2
        exact ⟨vs, .inl (.inl h1)⟩
      · unfold guardOk at g
        rw [Bool.and_eq_true] at g
        obtain ⟨g, _⟩ := g
        split at g
        · rename_i zs e3
          have := beqs_eq g
          subst this
          obtain ⟨vs, h1, h2⟩ := rs'.cells _ _ _ (pre_get pr h) e3
          exact ⟨vs, .inl (.inl h1), h2⟩
        · cases g
    · cases e
  | non => cases e
  | bl => cases e
  | int => cases e
  | obj => cases e

theorem Ext.here {ex ms : List Addr} {st : Store} {H : Hp} (rs : RS ca X.K ex ms st H) : RS ca X.K ex ms st H ∧ Ext ex ms st H ms st H := ⟨rs, Ext.refl⟩
theorem jok_list {F : Hp} {ms : List Addr} {gs xs : List D} {a : Addr} (h : ∀ (ex' ms' : List Addr) (st' : Store) (H' : Hp), RS ca X.K ex' ms' st' H' → Same F (vw ex' ms' st' H') → ms <+: ms' → guardOk st' gs = true → ∃ vs, SqB X.K true H' a vs ∧ VRels ca X.K (vw ex' ms' st' H') ms' vs xs) :
    JOk ca X.K F ms gs xs (Itl X.K a) := by
  intro ex' ms' st' H' i rs sm pr g _
  obtain ⟨vs, h1, h2⟩ := h ex' ms' st' H' rs sm pr g
  have h1 : SqL X.K H' a vs := h1
  split
  · rename_i e
    refine ⟨vs, h1, ?_⟩
    rw [h2.length]
    rcases Nat.lt_or_ge i xs.length with q | q
    · rw [List.getElem?_eq_getElem q] at e; cases e
    · exact q
  · rename_i d e
    obtain ⟨v, e1, r⟩ := h2.getD e
    refine ⟨⟨vs, v, h1, e1⟩, fun v' H'' ⟨e2, q⟩ => ?_⟩
    subst e2
    have e3 := q vs h1
    rw [e1] at e3
    cases e3
    exact ⟨rs, Ext.refl, r⟩
theorem jok_tup {F : Hp} {ms : List Addr} {gs xs : List D} {a : Addr} (h : ∀ (ex' ms' : List Addr) (st' : Store) (H' : Hp), RS ca X.K ex' ms' st' H' → Same F (vw ex' ms' st' H') → ms <+: ms' → guardOk st' gs = true → ∃ vs, SqB X.K false H' a vs ∧ VRels ca X.K (vw ex' ms' st' H') ms' vs xs) :
    JOk ca X.K F ms gs xs (Itt X.K a) := by
  intro ex' ms' st' H' i rs sm pr g _
  obtain ⟨vs, h1, h2⟩ := h ex' ms' st' H' rs sm pr g
  have h1 : SqT X.K H' a vs := h1
  split
  · rename_i e
    refine ⟨vs, h1, ?_⟩
    rw [h2.length]
    rcases Nat.lt_or_ge i xs.length with q | q
    · rw [List.getElem?_eq_getElem q] at e; cases e
    · exact q
  · rename_i d e
    obtain ⟨v, e1, r⟩ := h2.getD e
    refine ⟨⟨vs, v, h1, e1⟩, fun v' H'' ⟨e2, q⟩ => ?_⟩
    subst e2
    have e3 := q vs h1
    rw [e1] at e3
    cases e3
    exact ⟨rs, Ext.refl, r⟩
theorem jok_str {F : Hp} {ms : List Addr} {gs : List D} {s : Str} : JOk ca X.K F ms gs (signsOf s) (Its s) := by
  intro ex' ms' st' H' i rs sm pr g _
  unfold signsOf
  split
  · rename_i e
    rw [List.getElem?_map, Option.map_eq_none_iff, List.getElem?_eq_none_iff] at e
    show s.cps.size ≤ i
    simpa using e
  · rename_i d e
    rw [List.getElem?_map, Option.map_eq_some_iff] at e
    obtain ⟨c, e1, rfl⟩ := e
    rw [Array.getElem?_toList] at e1
    have hlt : i < s.cps.size := by
      rcases Nat.lt_or_ge i s.cps.size with q | q
      · exact q
      · rw [Array.getElem?_eq_none q] at e1; cases e1
    refine ⟨hlt, fun v' H'' ⟨e2, c', e3, e4⟩ => ?_⟩
    subst e2
    rw [e1] at e3
    cases e3
    subst e4
    exact ⟨rs, Ext.refl, .str _⟩
theorem jok_rng {F : Hp} {ms : List Addr} {gs : List D} {lo : Int} {n : Nat} : JOk ca X.K F ms gs ((List.range n).map fun (k : Nat) => .int (lo + (k : Int))) (Itr lo n) := by
  intro ex' ms' st' H' i rs sm pr g _
  split
  · rename_i e
    rw [List.getElem?_map, Option.map_eq_none_iff, List.getElem?_eq_none_iff, List.length_range] at e
    exact e
  · rename_i d e
    rw [List.getElem?_map, Option.map_eq_some_iff] at e
    obtain ⟨c, e1, rfl⟩ := e
    have hlt : i < n := by
      rcases Nat.lt_or_ge i n with q | q
      · exact q
      · rw [List.getElem?_eq_none (by rw [List.length_range]; exact q)] at e1; cases e1
    rw [List.getElem?_range hlt] at e1
    cases e1
    refine ⟨hlt, fun v' H'' ⟨e2, e3⟩ => ?_⟩
    subst e2
    subst e3
    exact ⟨rs, Ext.refl, .int _⟩

/-- a value that is walked -/
theorem i_val {tg e : Expr} {c : CE} (he : PE X e (tV P Φ ca X.K W c)) (hc : ∀ ρ st, evalM P Φ ρ .i c st = fin .i (evalM P Φ ρ .v c st)) : PI X tg e (tI P Φ ca X.K W c) := by
  refine (PI.or (PI.or (pi_list he) (pi_tup he)) (pi_str he)).imp fun σ H R h => ?_
  obtain ⟨ex, ms, st, ρ, rs, sl, h⟩ := h
  rw [hc] at h
  cases q : evalM P Φ ρ .v c st with
  | stuck => rw [q] at h; exact h.elim
  | exn c' vs st' =>
    rw [q] at h
    exact .inl (.inl ⟨ex, ms, st, ρ, rs, sl, by dsimp only; rw [q]; exact h⟩)
  | ok d st' =>
    rw [q] at h
    have h : post ca X.K (relI ca X.K) ex ms st H (MP.opt ((iterOf st' d).map packI) st') R (WE' W σ) := h
    cases q2 : iterOf st' d with
    | none => rw [q2] at h; exact h.elim
    | some p =>
      obtain ⟨xs, gs⟩ := p
      rw [q2] at h
      have h : post ca X.K (relI ca X.K) ex ms st H (.ok (packI (xs, gs)) st') R (WE' W σ) := h
      have go : ∀ {Z : VK}, (∀ (ms' : List Addr) (H' : Hp) (v : V), RS ca X.K ex ms' st' H' → Ext ex ms st H ms' st' H' → VRel ca X.K (vw ex ms' st' H') ms' v d → Z v H') → tV P Φ ca X.K W c σ H Z :=
        fun {Z} hz => ⟨ex, ms, st, ρ, rs, sl, by dsimp only; rw [q]; exact hz⟩
      cases d with
      | tup ds =>
        refine .inl (.inr (go fun ms' H' v rs' x r => ?_))
        rcases iter_src rs' r q2 with ⟨b, a, rfl, ⟨vs, hv⟩, hh⟩ | ⟨s, rfl, _⟩
        · cases r with
          | tup h1 r1 =>
            cases q2
            refine ⟨a, rfl, ⟨_, Same.seqT vw_le h1⟩, h ms' H' _ rs' x ⟨_, _, rfl, jok_tup fun ex2 ms2 st2 H2 rs2 sm pr g => ⟨_, Same.seqT (fun a o q => vw_le a o (sm a o q)) h1, r1.mono sm pr⟩⟩⟩
        · cases r
      | lst ds =>
        refine .inl (.inl (go fun ms' H' v rs' x r => ?_))
        cases r with
        | lst h1 r1 =>
          cases q2
          refine ⟨_, rfl, ⟨_, Same.seqL vw_le h1⟩, h ms' H' _ rs' x ⟨_, _, rfl, jok_list fun ex2 ms2 st2 H2 rs2 sm pr g => ⟨_, Same.seqL (fun a o q => vw_le a o (sm a o q)) h1, r1.mono sm pr⟩⟩⟩
      | str s =>
        refine .inr (go fun ms' H' v rs' x r => ?_)
        cases r with
        | str =>
          cases q2
          exact ⟨s, rfl, h ms' H' _ rs' x ⟨_, _, rfl, jok_str⟩⟩
      | own n =>
        refine .inl (.inl (go fun ms' H' v rs' x r => ?_))
        cases r with
        | own h1 =>
          simp only [iterOf] at q2
          split at q2
          · rename_i ys e2
            cases q2
            obtain ⟨vs, h2, h3⟩ := rs'.cells _ _ _ h1 e2
            refine ⟨_, rfl, ⟨vs, .inl (.inl h2)⟩, h ms' H' _ rs' x ⟨_, _, rfl, jok_list fun ex2 ms2 st2 H2 rs2 sm pr g => ?_⟩⟩
            unfold guardOk at g
            rw [Bool.and_eq_true] at g
            obtain ⟨g, _⟩ := g
            split at g
            · rename_i zs e3
              have := beqs_eq g
              subst this
              obtain ⟨vs, h1, h2⟩ := rs2.cells _ _ _ (pre_get pr h1) e3
              exact ⟨vs, .inl (.inl h1), h2⟩
            · cases g
          · cases q2
      | non => cases q2
      | bl => cases q2
      | int => cases q2
      | obj => cases q2
      | cls => cases q2

end
end MP
end

section
set_option linter.all false
set_option autoImplicit false
set_option maxHeartbeats 1000000
set_option maxRecDepth 100000
namespace MP
open PySem L2 PyProof.Rows

/-- the iterator over it, at i -/
def IterB (b : Bool) (it a : Addr) (i : Nat) (h : Heap) : Prop := if b = true then h.IsListIter it a i else h.IsTupleIter it a i
def HasB (b : Bool) (a : Addr) (its : Array Value) (h : Heap) : Prop := if b = true then h.IsList a its else h.IsTuple a its
def objB (b : Bool) (a : Addr) : Obj := { cls := .type (if b = true then "list_iterator" else "tuple_iterator"), data := .fields #[.ref a, .int 0 0] }
theorem iterB_obj {b : Bool} {it a : Addr} {i : Nat} {h : Heap} (p : IterB b it a i h) : ∃ o, h.get? it = some o ∧ ∀ v, o.data ≠ .cell v := by
  cases b with
  | true => obtain ⟨o, e, c, d⟩ := (show h.IsListIter it a i from p); exact ⟨o, e, fun v z => by rw [d] at z; cases z⟩
  | false => obtain ⟨o, e, c, d⟩ := (show h.IsTupleIter it a i from p); exact ⟨o, e, fun v z => by rw [d] at z; cases z⟩
theorem iterB_keep {b : Bool} {it a : Addr} {i : Nat} {h h' : Heap} (p : IterB b it a i h) (k : ∀ o, h.get? it = some o → h'.get? it = some o) : IterB b it a i h' := by
  cases b with
  | true => exact (show h.IsListIter it a i from p).at k
  | false => exact (show h.IsTupleIter it a i from p).at k
theorem iterB_start {b : Bool} {it a : Addr} {h : Heap} (p : h.get? it = some (objB b a)) : IterB b it a 0 h := by
  cases b with
  | true => exact ⟨_, p, rfl, rfl⟩
  | false => exact ⟨_, p, rfl, rfl⟩
theorem draws_B {prog : Program} {w : World} {A : Around} (hh : A.handled = none) (b : Bool) (it a : Addr) (hne : a ≠ it) (items : Array Value) :
    Draws prog w A it [it, a] items.size (fun i v => items[i]? = some v) (fun i h => IterB b it a i h ∧ HasB b a items h) := by
  cases b with
  | true => exact Draws.list hh it a hne items
  | false => exact Draws.tuple hh it a hne items
theorem begins_B (b : Bool) (a : Addr) (items : Array Value) : Begins (.ref a) (objB b a) (HasB b a items) := by
  cases b with
  | true => exact begins_list a items
  | false => exact begins_tuple a items

section
variable {X : Cx} {pins : List (Addr × Obj)} {σ : L2.St} {H : Hp} {s : Shared} {b : Bool} {a : Addr} {xs : List V}
theorem sqB_its (I : Inv X pins σ H s) (h : SqB X.K b H a xs) : ∃ its : List Value, Vals xs its ∧ HasB b a its.toArray s.heap ∧ a < s.heap.objs.size := by
  cases b with
  | true =>
    obtain ⟨its, r, p, _⟩ := I.list (show SqL X.K H a xs from h)
    exact ⟨its, r, p.isList, p.lt⟩
  | false =>
    obtain ⟨its, r, p, _⟩ := I.tuple (show SqT X.K H a xs from h)
    obtain ⟨o, e, q⟩ := id p
    exact ⟨its, r, ⟨o, e, q⟩, Heap.lt_size e⟩
theorem sqB_inj (I : Inv X pins σ H s) {ys : List V} (h : SqB X.K b H a xs) (h' : SqB X.K b H a ys) : xs = ys := by
  cases b with
  | true => exact I.list_inj (show SqL X.K H a xs from h) (show SqL X.K H a ys from h')
  | false => exact I.tuple_inj (show SqT X.K H a xs from h) (show SqT X.K H a ys from h')
end

/-- an iterator that gives new tuples, from what goes at each single turn -/
theorem turn_new {P : Program} {w : World} {K : PySem.W.Frag} {tg : Expr} (J : It) (fp : List Addr) (it : Addr) (tn : Nat → Heap → Prop) (mem : it ∈ fp)
    (obj : ∀ i h, tn i h → ∀ b ∈ fp, ∃ o, h.get? b = some o ∧ ∀ v, o.data ≠ .cell v)
    (keep : ∀ i h h', tn i h → (∀ b ∈ fp, ∀ o, h.get? b = some o → h'.get? b = some o) → tn i h')
    (self : ∀ (A : Around) (i : Nat) (s : Shared) (Q : Value → Shared → Prop) (E : Value → Shared → Prop), tn i s.heap → Q (.ref it) s → wpAny (model P w) A (pyIter (.ref it)) Q E s)
    (item : ∀ (X : Cx), X.prog = P → X.w = w → X.K = K → X.A.handled = none → ∀ (i : Nat) (pins : List (Addr × Obj)) (s : Shared) (σ : L2.St) (H : Hp), Inv X pins σ H s → tn i s.heap → J.go i H →
      ∃ (fp' wr : List Addr) (n : Nat) (Y : Nat → Heap → Value → Heap → Prop) (St : Nat → Heap → Prop), GoesN P w X.A tg it fp' wr n Y St ∧ i < n ∧ St i s.heap ∧ (∀ b ∈ wr, b ∈ fp) ∧ (∀ h', St (i + 1) h' → tn (i + 1) h') ∧
        ∀ v h', Y i s.heap v h' → ∃ (T : Addr) (us : List Value) (vs : List V), v = .ref T ∧ s.heap.objs.size ≤ T ∧ Vals vs us ∧ vs.length ≤ sizeLine ∧ h'.IsTuple T us.toArray ∧ (H T = none → J.yld i H (.ref T) (upd H T (.tup vs))))
    (done : ∀ (X : Cx), X.prog = P → X.w = w → X.K = K → X.A.handled = none → ∀ (i : Nat) (pins : List (Addr × Obj)) (s : Shared) (σ : L2.St) (H : Hp), Inv X pins σ H s → tn i s.heap → J.stop i H →
      ∃ (fp' wr : List Addr) (Y : Nat → Heap → Value → Heap → Prop) (St : Nat → Heap → Prop), GoesN P w X.A tg it fp' wr i Y St ∧ St i s.heap ∧ ∀ b ∈ wr, b ∈ fp) :
    Turn P w K tg J fp it tn where
  mem := mem
  obj := obj
  keep := keep
  self := self
  item := by
    intro X hP hw hK hc i pins s σ H E I hf st hg
    obtain ⟨fp', wr, n, Y, St, W, hi, hst, hwr, hnx, hy⟩ := item X hP hw hK (I.ok.hd hc) i pins s σ H I st hg
    refine wpAny_mono (W.goes i s (fun u s2 => ∃ x H', Inv X pins σ H' s2 ∧ RelV x u ∧ J.yld i H x H' ∧ tn (i + 1) s2.heap ∧ ∀ b ∈ fp, H' b = none) E hi hst fun v h' tk hY hS hk htk => ?_) (fun r s1 q => q) fun _ _ q => q
    obtain ⟨T, us, vs, rfl, hT, rv, hl, ht, hyl⟩ := hy v h' hY
    subst hP hw
    have new : ObjOk X.prog X.w (upd H T (.tup vs)) h' T (.tup vs) := ⟨hl, us, rv, ht⟩
    have hn : H T = none := I.hok.fresh hT
    have I1 : Inv X pins σ (upd H T (.tup vs)) { s with heap := h', toks := tk } := I.turnedNew (t' := tk) (ch := wr) (fun b o hb e => hk b o hb e) (fun b hb => hf b (hwr b hb)) hT new
    refine ⟨.ref T, _, I1, rfl, hyl hn, hnx h' hS, fun b hb => ?_⟩
    obtain ⟨o, e, _⟩ := obj i _ st b hb
    rw [upd_ne (Nat.ne_of_lt (Nat.lt_of_lt_of_le (Heap.lt_size e) hT))]
    exact (hf b hb).1
  done := by
    intro X hP hw hK hc i pins s σ H E I hf st hg
    obtain ⟨fp', wr, Y, St, W, hst, hwr⟩ := done X hP hw hK (I.ok.hd hc) i pins s σ H I st hg
    refine W.stops s (fun s1 => Inv X pins σ H s1) E hst fun h' tk hk htk => ?_
    exact I.turnedL (t' := tk) (ch := wr) (fun b o hb e => hk b o hb e) fun b hb => hf b (hwr b hb)

def ItE (K : PySem.W.Frag) (b : Bool) (a : Addr) : It :=
  ⟨fun i H => ∃ (xs : List V) (x : V), SqB K b H a xs ∧ xs[i]? = some x, fun i H v H' => ∃ T x, v = .ref T ∧ H T = none ∧ H' = upd H T (.tup [.int (i : Nat), x]) ∧ ∀ xs, SqB K b H a xs → xs[i]? = some x, fun i H => ∃ xs : List V, SqB K b H a xs ∧ xs.length = i⟩
theorem turn_E {P : Program} {w : World} {K : PySem.W.Frag} {elts : List Expr} {kk : Nat} {tpos : Pos} {b : Bool} {a e it : Addr} (h1 : e ≠ it) (h2 : a ≠ it) (h3 : e ≠ a) :
    Turn P w K (.Tuple elts kk tpos) (ItE K b a) [e, it] e (fun i h => (∃ old, IsEnum h e it (0 + (i : Int)) old) ∧ IterB b it a i h) := by
  refine turn_new _ _ _ _ (by simp) (fun i h st c hc => ?_) (fun i h h' st k => ?_) (fun A i s Q E st h => ?_) ?_ ?_
  · obtain ⟨⟨old, he⟩, hi⟩ := st
    have e' : c = e ∨ c = it := by simpa using hc
    rcases e' with z | z
    · rw [z]; exact ⟨_, he, fun v q => nomatch q⟩
    · rw [z]; exact iterB_obj hi
  · obtain ⟨⟨old, he⟩, hi⟩ := st
    exact ⟨⟨old, k e (by simp) _ he⟩, iterB_keep hi fun o q => k it (by simp) o q⟩
  · obtain ⟨⟨old, he⟩, hi⟩ := st
    exact wpAny_pyIter_enum he h
  · intro X hP hw hK hd i pins s σ H I st hg
    subst hP hw hK
    obtain ⟨xs, x, hq, hx⟩ := hg
    obtain ⟨its, rv, hb, _⟩ := sqB_its I hq
    have hin : X.A.in1.handled = none := hd
    have hlt : i < its.toArray.size := by
      rw [List.size_toArray, ← rv.length]
      exact (List.getElem?_eq_some_iff.mp hx).1
    refine ⟨_, _, _, _, _, GoesN.enumFrom 0 (draws_B (prog := X.prog) (w := X.w) hin b it a h2 its.toArray) e h1 (by simp [h1, h3]) (by simp), hlt, ⟨st.1, st.2, hb⟩, fun c hc => hc, fun h' z => ⟨z.1, z.2.1⟩, ?_⟩
    rintro v h' ⟨T, t, u, rfl, hT, hu, ht⟩
    obtain ⟨u', hu', ru⟩ := rv.get hx
    have : u = u' := by
      have e1 : its[i]? = some u := by simpa using hu
      rw [hu'] at e1
      exact (Option.some.inj e1).symm
    subst this
    refine ⟨T, [.int (0 + (i : Int)) t, u], [.int (i : Nat), x], rfl, hT, .cons ⟨t, by rw [Int.zero_add]⟩ (.cons ru .nil), by show 2 ≤ sizeLine; decide, ht, fun hn => ⟨T, x, rfl, hn, rfl, fun ys hy => by rw [sqB_inj I hy hq]; exact hx⟩⟩
  · intro X hP hw hK hd i pins s σ H I st hg
    subst hP hw hK
    obtain ⟨xs, hq, hx⟩ := hg
    obtain ⟨its, rv, hb, _⟩ := sqB_its I hq
    have hin : X.A.in1.handled = none := hd
    have hlt : its.toArray.size = i := by
      rw [List.size_toArray, ← rv.length]; exact hx
    have D := draws_B (prog := X.prog) (w := X.w) hin b it a h2 its.toArray
    rw [hlt] at D
    exact ⟨_, _, _, _, GoesN.enumFrom 0 D e h1 (by simp [h1, h3]) (by simp), ⟨st.1, st.2, hb⟩, fun c hc => hc⟩

set_option maxHeartbeats 2000000 in
theorem meets_enum1 {v : Value} {o : Obj} {H : Heap → Prop} (B : Begins v o H) :
    Meets (Builtin.«enumerate.__new__» ⟨[.type "enumerate", v], []⟩) (fun _ R s => H s.heap ∧
      R (.ok (.ret (.ref (s.heap.push o).objs.size))) { s with heap := (s.heap.push o).push { cls := .type "enumerate", data := .fields #[.none, .bool false, .ref s.heap.objs.size, rawInt 0, .none, .none] } }) :=
  .of_wp fun prog w A R s h => by
    obtain ⟨hp, g, d, tk, os⟩ := s; obtain ⟨h1, h⟩ := h
    have hsub := sub_enumerate
    have q1 : ∀ {A' : Around} {E : Value → Shared → Prop} {Q : Value → Shared → Prop}, Q (.ref hp.objs.size) ⟨hp.push o, g, d, tk, os⟩ → wpAny (model prog w) A' (pyIter v) Q E ⟨hp, g, d, tk, os⟩ :=
      fun q => B.iter prog w _ _ ⟨hp, g, d, tk, os⟩ _ h1 q
    wp_walk using q1
    refine wpAny_stack_any fun st => wpAny_pure ?_
    split
    · rename_i c _ _ _ _ _
      cases (c == Value.type "enumerate")
      · wp_walk using q1
        exact ⟨_, rfl, h⟩
      · wp_walk using q1
        exact ⟨_, rfl, h⟩
    · wp_walk using q1
      exact ⟨_, rfl, h⟩
section
variable {prog : Program} {w : World} {A : Around} {E : Value → Shared → Prop} {s : Shared}
theorem call_enum1 {v : Value} {o : Obj} {H : Heap → Prop} {Q : Value → Shared → Prop} (B : Begins v o H) (h1 : H s.heap)
    (h : ∀ h', IsEnum h' (s.heap.objs.size + 1) s.heap.objs.size 0 .none → h'.get? s.heap.objs.size = some o → h'.objs.size = s.heap.objs.size + 2 →
      (∀ b o, s.heap.get? b = some o → h'.get? b = some o) → Q (.ref (s.heap.objs.size + 1)) { s with heap := h' }) :
    wpAny (model prog w) A (call (.type "enumerate") [v]) Q E s := by
  refine callType_new F.called_enumerate (by decide) (F.typeCall_enumerate_1 _) (F.newCall_enumerate_1 _) (fun obj => F.args_object_init_2 obj _) F.entry_enumerate_new (meets_enum1 B) ⟨h1, ?_⟩
  have hz : (s.heap.push o).objs.size = s.heap.objs.size + 1 := Heap.size_push ..
  show _ ∧ _
  rw [hz]
  have he : IsEnum ((s.heap.push o).push { cls := .type "enumerate", data := .fields #[.none, .bool false, .ref s.heap.objs.size, rawInt 0, .none, .none] }) (s.heap.objs.size + 1) s.heap.objs.size 0 .none := by
    have := Heap.get?_push_size (s.heap.push o) (o := { cls := .type "enumerate", data := .fields #[.none, .bool false, .ref s.heap.objs.size, rawInt 0, .none, .none] }) rfl
    rw [hz] at this; exact this
  refine ⟨⟨_, he, rfl⟩, h _ he (Heap.get?_push_of_some _ (Heap.get?_push_size _ B.free)) (by rw [Heap.size_push, hz]) fun b o x => Heap.get?_push_of_some _ (Heap.get?_push_of_some _ x)⟩
end
end MP
end

section
set_option linter.all false
set_option autoImplicit false
set_option maxHeartbeats 1000000
set_option maxRecDepth 100000
namespace MP
open PySem L2 PyProof.Rows

def ItZ2 (K : PySem.W.Frag) (b1 : Bool) (a1 : Addr) (b2 : Bool) (a2 : Addr) : It :=
  ⟨fun i H => ∃ (xs ys : List V) (x y : V), SqB K b1 H a1 xs ∧ SqB K b2 H a2 ys ∧ xs[i]? = some x ∧ ys[i]? = some y,
    fun i H v H' => ∃ T x y, v = .ref T ∧ H T = none ∧ H' = upd H T (.tup [x, y]) ∧ (∀ xs, SqB K b1 H a1 xs → xs[i]? = some x) ∧ ∀ ys, SqB K b2 H a2 ys → ys[i]? = some y,
    fun i H => ∃ xs ys : List V, SqB K b1 H a1 xs ∧ SqB K b2 H a2 ys ∧ min xs.length ys.length = i⟩
def ItZ3 (K : PySem.W.Frag) (b1 : Bool) (a1 : Addr) (b2 : Bool) (a2 : Addr) (b3 : Bool) (a3 : Addr) : It :=
  ⟨fun i H => ∃ (xs ys zs : List V) (x y z : V), SqB K b1 H a1 xs ∧ SqB K b2 H a2 ys ∧ SqB K b3 H a3 zs ∧ xs[i]? = some x ∧ ys[i]? = some y ∧ zs[i]? = some z,
    fun i H v H' => ∃ T x y z, v = .ref T ∧ H T = none ∧ H' = upd H T (.tup [x, y, z]) ∧ (∀ xs, SqB K b1 H a1 xs → xs[i]? = some x) ∧ (∀ ys, SqB K b2 H a2 ys → ys[i]? = some y) ∧ ∀ zs, SqB K b3 H a3 zs → zs[i]? = some z,
    fun i H => ∃ xs ys zs : List V, SqB K b1 H a1 xs ∧ SqB K b2 H a2 ys ∧ SqB K b3 H a3 zs ∧ min (min xs.length ys.length) zs.length = i⟩

theorem vals_at {vs : List V} {its : List Value} (rv : Vals vs its) {i : Nat} {x : V} {u : Value} (hx : vs[i]? = some x) (hu : its.toArray[i]? = some u) : RelV x u := by
  obtain ⟨u', hu', ru⟩ := rv.get hx
  have e1 : its[i]? = some u := by simpa using hu
  rw [hu'] at e1
  cases e1
  exact ru
theorem vals_size {vs : List V} {its : List Value} (rv : Vals vs its) : its.toArray.size = vs.length := by rw [List.size_toArray, ← rv.length]

theorem turn_Z2 {P : Program} {w : World} {K : PySem.W.Frag} {elts : List Expr} {kk : Nat} {tpos : Pos} {b1 b2 : Bool} {a1 a2 z TI TO i1 i2 : Addr} (S : ZipSep2 z TI TO i1 i2 [i1, a1] [i2, a2]) (n1 : a1 ≠ i1) (n2 : a2 ≠ i2) :
    Turn P w K (.Tuple elts kk tpos) (ItZ2 K b1 a1 b2 a2) [z, TI, TO, i1, i2] z (fun i h => IsZip h z TI TO .none ∧ IsTupOf2 h TI (.ref i1) (.ref i2) ∧ (∃ x y, IsTupOf2 h TO x y) ∧ IterB b1 i1 a1 i h ∧ IterB b2 i2 a2 i h) := by
  refine turn_new _ _ _ _ (by simp) (fun i h st c hc => ?_) (fun i h h' st k => ?_) (fun A i s Q E st h => ?_) ?_ ?_
  · obtain ⟨hz, hTI, ⟨x, y, hTO⟩, h1, h2⟩ := st
    have e' : c = z ∨ c = TI ∨ c = TO ∨ c = i1 ∨ c = i2 := by simpa using hc
    rcases e' with q | q | q | q | q
    · rw [q]; exact ⟨_, hz, fun v q => nomatch q⟩
    · rw [q]; exact ⟨_, hTI, fun v q => nomatch q⟩
    · rw [q]; exact ⟨_, hTO, fun v q => nomatch q⟩
    · rw [q]; exact iterB_obj h1
    · rw [q]; exact iterB_obj h2
  · obtain ⟨hz, hTI, ⟨x, y, hTO⟩, h1, h2⟩ := st
    exact ⟨k z (by simp) _ hz, k TI (by simp) _ hTI, ⟨x, y, k TO (by simp) _ hTO⟩, iterB_keep h1 fun o q => k i1 (by simp) o q, iterB_keep h2 fun o q => k i2 (by simp) o q⟩
  · exact wpAny_pyIter_zip st.1 h
  · intro X hP hw hK hd i pins s σ H I st hg
    subst hP hw hK
    obtain ⟨xs, ys, x, y, hq, hq2, hx, hy⟩ := hg
    obtain ⟨its, rv, hb, _⟩ := sqB_its I hq
    obtain ⟨its2, rv2, hb2, _⟩ := sqB_its I hq2
    have hin : X.A.in1.handled = none := hd
    have l1 : i < xs.length := (List.getElem?_eq_some_iff.mp hx).1
    have l2 : i < ys.length := (List.getElem?_eq_some_iff.mp hy).1
    obtain ⟨hz, hTI, hTO, h1, h2⟩ := st
    refine ⟨_, _, _, _, _, GoesN.zip2 S (draws_B (prog := X.prog) (w := X.w) hin b1 i1 a1 n1 its.toArray) (draws_B (prog := X.prog) (w := X.w) hin b2 i2 a2 n2 its2.toArray), by rw [vals_size rv, vals_size rv2]; omega, ⟨hz, hTI, hTO, ⟨h1, hb⟩, h2, hb2⟩, fun c hc => by simp at hc ⊢; rcases hc with q | q | q | q <;> simp [q], fun h' q => ⟨q.1, q.2.1, q.2.2.1, q.2.2.2.1.1, q.2.2.2.2.1⟩, ?_⟩
    rintro v h' ⟨T, u1, u2, rfl, hT, hu1, hu2, ht⟩
    refine ⟨T, [u1, u2], [x, y], rfl, hT, .cons (vals_at rv hx hu1) (.cons (vals_at rv2 hy hu2) .nil), by show 2 ≤ sizeLine; decide, ht, fun hn => ⟨T, x, y, rfl, hn, rfl, fun l hl => by rw [sqB_inj I hl hq]; exact hx, fun l hl => by rw [sqB_inj I hl hq2]; exact hy⟩⟩
  · intro X hP hw hK hd i pins s σ H I st hg
    subst hP hw hK
    obtain ⟨xs, ys, hq, hq2, hx⟩ := hg
    obtain ⟨its, rv, hb, _⟩ := sqB_its I hq
    obtain ⟨its2, rv2, hb2, _⟩ := sqB_its I hq2
    have hin : X.A.in1.handled = none := hd
    obtain ⟨hz, hTI, hTO, h1, h2⟩ := st
    have W := GoesN.zip2 (elts := elts) (x1 := kk) (pos := tpos) S (draws_B (prog := X.prog) (w := X.w) hin b1 i1 a1 n1 its.toArray) (draws_B (prog := X.prog) (w := X.w) hin b2 i2 a2 n2 its2.toArray)
    rw [vals_size rv, vals_size rv2, hx] at W
    exact ⟨_, _, _, _, W, ⟨hz, hTI, hTO, ⟨h1, hb⟩, h2, hb2⟩, fun c hc => by simp at hc ⊢; rcases hc with q | q | q | q <;> simp [q]⟩

theorem turn_Z3 {P : Program} {w : World} {K : PySem.W.Frag} {elts : List Expr} {kk : Nat} {tpos : Pos} {b1 b2 b3 : Bool} {a1 a2 a3 z TI TO i1 i2 i3 : Addr} (S : ZipSep3 z TI TO i1 i2 i3 [i1, a1] [i2, a2] [i3, a3]) (n1 : a1 ≠ i1) (n2 : a2 ≠ i2) (n3 : a3 ≠ i3) :
    Turn P w K (.Tuple elts kk tpos) (ItZ3 K b1 a1 b2 a2 b3 a3) [z, TI, TO, i1, i2, i3] z (fun i h => IsZip h z TI TO .none ∧ IsTupOf3 h TI (.ref i1) (.ref i2) (.ref i3) ∧ (∃ x y u, IsTupOf3 h TO x y u) ∧ IterB b1 i1 a1 i h ∧ IterB b2 i2 a2 i h ∧ IterB b3 i3 a3 i h) := by
  refine turn_new _ _ _ _ (by simp) (fun i h st c hc => ?_) (fun i h h' st k => ?_) (fun A i s Q E st h => ?_) ?_ ?_
  · obtain ⟨hz, hTI, ⟨x, y, u, hTO⟩, h1, h2, h3⟩ := st
    have e' : c = z ∨ c = TI ∨ c = TO ∨ c = i1 ∨ c = i2 ∨ c = i3 := by simpa using hc
    rcases e' with q | q | q | q | q | q
    · rw [q]; exact ⟨_, hz, fun v q => nomatch q⟩
    · rw [q]; exact ⟨_, hTI, fun v q => nomatch q⟩
    · rw [q]; exact ⟨_, hTO, fun v q => nomatch q⟩
    · rw [q]; exact iterB_obj h1
    · rw [q]; exact iterB_obj h2
    · rw [q]; exact iterB_obj h3
  · obtain ⟨hz, hTI, ⟨x, y, u, hTO⟩, h1, h2, h3⟩ := st
    exact ⟨k z (by simp) _ hz, k TI (by simp) _ hTI, ⟨x, y, u, k TO (by simp) _ hTO⟩, iterB_keep h1 fun o q => k i1 (by simp) o q, iterB_keep h2 fun o q => k i2 (by simp) o q, iterB_keep h3 fun o q => k i3 (by simp) o q⟩
  · exact wpAny_pyIter_zip st.1 h
  · intro X hP hw hK hd i pins s σ H I st hg
    subst hP hw hK
    obtain ⟨xs, ys, zs, x, y, t, hq, hq2, hq3, hx, hy, ht⟩ := hg
    obtain ⟨its, rv, hb, _⟩ := sqB_its I hq
    obtain ⟨its2, rv2, hb2, _⟩ := sqB_its I hq2
    obtain ⟨its3, rv3, hb3, _⟩ := sqB_its I hq3
    have hin : X.A.in1.handled = none := hd
    have l1 : i < xs.length := (List.getElem?_eq_some_iff.mp hx).1
    have l2 : i < ys.length := (List.getElem?_eq_some_iff.mp hy).1
    have l3 : i < zs.length := (List.getElem?_eq_some_iff.mp ht).1
    obtain ⟨hz, hTI, hTO, h1, h2, h3⟩ := st
    refine ⟨_, _, _, _, _, GoesN.zip3 S (draws_B (prog := X.prog) (w := X.w) hin b1 i1 a1 n1 its.toArray) (draws_B (prog := X.prog) (w := X.w) hin b2 i2 a2 n2 its2.toArray) (draws_B (prog := X.prog) (w := X.w) hin b3 i3 a3 n3 its3.toArray), by rw [vals_size rv, vals_size rv2, vals_size rv3]; omega, ⟨hz, hTI, hTO, ⟨h1, hb⟩, ⟨h2, hb2⟩, h3, hb3⟩, fun c hc => by simp at hc ⊢; rcases hc with q | q | q | q | q <;> simp [q], fun h' q => ⟨q.1, q.2.1, q.2.2.1, q.2.2.2.1.1, q.2.2.2.2.1.1, q.2.2.2.2.2.1⟩, ?_⟩
    rintro v h' ⟨T, u1, u2, u3, rfl, hT, hu1, hu2, hu3, htt⟩
    refine ⟨T, [u1, u2, u3], [x, y, t], rfl, hT, .cons (vals_at rv hx hu1) (.cons (vals_at rv2 hy hu2) (.cons (vals_at rv3 ht hu3) .nil)), by show 3 ≤ sizeLine; decide, htt, fun hn => ⟨T, x, y, t, rfl, hn, rfl, fun l hl => by rw [sqB_inj I hl hq]; exact hx, fun l hl => by rw [sqB_inj I hl hq2]; exact hy, fun l hl => by rw [sqB_inj I hl hq3]; exact ht⟩⟩
  · intro X hP hw hK hd i pins s σ H I st hg
    subst hP hw hK
    obtain ⟨xs, ys, zs, hq, hq2, hq3, hx⟩ := hg
    obtain ⟨its, rv, hb, _⟩ := sqB_its I hq
    obtain ⟨its2, rv2, hb2, _⟩ := sqB_its I hq2
    obtain ⟨its3, rv3, hb3, _⟩ := sqB_its I hq3
    have hin : X.A.in1.handled = none := hd
    obtain ⟨hz, hTI, hTO, h1, h2, h3⟩ := st
    have W := GoesN.zip3 (elts := elts) (x1 := kk) (pos := tpos) S (draws_B (prog := X.prog) (w := X.w) hin b1 i1 a1 n1 its.toArray) (draws_B (prog := X.prog) (w := X.w) hin b2 i2 a2 n2 its2.toArray) (draws_B (prog := X.prog) (w := X.w) hin b3 i3 a3 n3 its3.toArray)
    rw [vals_size rv, vals_size rv2, vals_size rv3, hx] at W
    exact ⟨_, _, _, _, W, ⟨hz, hTI, hTO, ⟨h1, hb⟩, ⟨h2, hb2⟩, h3, hb3⟩, fun c hc => by simp at hc ⊢; rcases hc with q | q | q | q | q <;> simp [q]⟩

section
variable {X : Cx} {elts : List Expr} {kk : Nat} {p pos tpos : Pos}
theorem isize {pins : List (Addr × Obj)} {σ : L2.St} {H : Hp} {s : Shared} (I : Inv X pins σ H s) {fp : List Addr} (h : ∀ c ∈ fp, s.heap.objs.size ≤ c) : ∀ c ∈ fp, FpOk X pins H c := fun c hc => I.fpOk (h c hc) (I.hok.fresh (h c hc))
def iE (K : PySem.W.Frag) (ta : TA) : TI := fun σ H R => ta σ H fun vs H1 => ∃ b a xs, vs = [.ref a] ∧ SqB K b H1 a xs ∧ R (ItE K b a) H1
theorem pi_E {e : Expr} {ta : TA} (hg : L2.Gl X "enumerate") (hm : X.mg "enumerate" = none) (ha : PA X [e] ta) (hs : starEach [e] X.env = [(false, eval e X.env)]) :
    PI X (.Tuple elts kk tpos) (.Call (.Name "enumerate" p) [e] [] pos) (iE X.K ta) := by
  refine ⟨fun pins s σ H R I h => ?_⟩
  refine Call_ (ld_blt I hg hm boot_enumerate (PyProof.Rows.callWith_type1 (thn (ha.run pos pins s σ H _ I h) fun us s1 ⟨vs, H1, I1, r1, q1⟩ => ?_) hs rfl))
  obtain ⟨b, a, xs, ex, hq, q⟩ := q1
  subst ex
  cases r1 with
  | cons r rr =>
    cases rr
    cases r
    obtain ⟨its, rv, hb, hlt⟩ := sqB_its I1 hq
    refine call_enum1 (begins_B b a its.toArray) hb fun h' he hit hsz hk => wpAny_pyIter_enum he ?_
    have I2 : Inv X pins σ H1 { s1 with heap := h' } := I1.kept (t' := s1.toks) hk
    refine ⟨s1.heap.objs.size + 1, [s1.heap.objs.size + 1, s1.heap.objs.size], _, _, H1, rfl, I2, turn_E (b := b) (a := a) (e := s1.heap.objs.size + 1) (it := s1.heap.objs.size) (Nat.succ_ne_self _) (Nat.ne_of_lt hlt) (Nat.ne_of_gt (Nat.lt_succ_of_lt hlt)), ⟨⟨.none, he⟩, iterB_start hit⟩, isize I1 fun c hc => ?_, q⟩
    have e' : c = s1.heap.objs.size + 1 ∨ c = s1.heap.objs.size := by simpa using hc
    rcases e' with z | z
    · rw [z]; exact Nat.le_add_right _ _
    · rw [z]; exact Nat.le_refl _
def iZ2 (K : PySem.W.Frag) (ta : TA) : TI := fun σ H R => ta σ H fun vs H1 => ∃ b1 a1 b2 a2 xs ys, vs = [.ref a1, .ref a2] ∧ SqB K b1 H1 a1 xs ∧ SqB K b2 H1 a2 ys ∧ R (ItZ2 K b1 a1 b2 a2) H1
theorem pi_Z2 {e e2 : Expr} {ta : TA} (hg : L2.Gl X "zip") (hm : X.mg "zip" = none) (ha : PA X [e, e2] ta) (hs : starEach [e, e2] X.env = (false, eval e X.env) :: starEach [e2] X.env) (hpl : (backTo pos (starEach [e2] X.env)).any (·.1) = false) :
    PI X (.Tuple elts kk tpos) (.Call (.Name "zip" p) [e, e2] [] pos) (iZ2 X.K ta) := by
  refine ⟨fun pins s σ H R I h => ?_⟩
  refine Call_ (ld_blt I hg hm PyProof.Rows.boot_zip (PyProof.Rows.callWith_type1 (thn (ha.run pos pins s σ H _ I h) fun us s1 ⟨vs, H1, I1, r1, q1⟩ => ?_) hs hpl))
  obtain ⟨b1, a1, b2, a2, xs, ys, ex, hq, hq2, q⟩ := q1
  subst ex
  cases r1 with
  | cons r rr =>
    cases rr with
    | cons r2 rr =>
      cases rr
      cases r
      cases r2
      obtain ⟨its, rv, hb, hlt⟩ := sqB_its I1 hq
      obtain ⟨its2, rv2, hb2, hlt2⟩ := sqB_its I1 hq2
      refine zip_begins2 (begins_B b1 a1 its.toArray) (begins_B b2 a2 its2.toArray) hb hb2 fun h' hz hTI hTO g1 g2 hsz hk => wpAny_pyIter_zip hz ?_
      have I2 : Inv X pins σ H1 { s1 with heap := h' } := I1.kept (t' := s1.toks) hk
      have S := zip_sep2 (N := s1.heap.objs.size) (fp1 := [a1]) (fp2 := [a2]) (by simpa using hlt) (by simpa using hlt2)
      refine ⟨s1.heap.objs.size + 4, [s1.heap.objs.size + 4, s1.heap.objs.size + 2, s1.heap.objs.size + 3, s1.heap.objs.size, s1.heap.objs.size + 1], _, _, H1, rfl, I2, turn_Z2 (b1 := b1) (b2 := b2) S (Nat.ne_of_lt hlt) (Nat.ne_of_lt (Nat.lt_succ_of_lt hlt2)), ⟨hz, hTI, ⟨_, _, hTO⟩, iterB_start g1, iterB_start g2⟩, isize I1 fun c hc => ?_, q⟩
      have e' : c = s1.heap.objs.size + 4 ∨ c = s1.heap.objs.size + 2 ∨ c = s1.heap.objs.size + 3 ∨ c = s1.heap.objs.size ∨ c = s1.heap.objs.size + 1 := by simpa using hc
      rcases e' with z | z | z | z | z <;> rw [z] <;> first | exact Nat.le_refl _ | exact Nat.le_add_right _ _
def iZ3 (K : PySem.W.Frag) (ta : TA) : TI := fun σ H R => ta σ H fun vs H1 => ∃ b1 a1 b2 a2 b3 a3 xs ys zs, vs = [.ref a1, .ref a2, .ref a3] ∧ SqB K b1 H1 a1 xs ∧ SqB K b2 H1 a2 ys ∧ SqB K b3 H1 a3 zs ∧ R (ItZ3 K b1 a1 b2 a2 b3 a3) H1
theorem pi_Z3 {e e2 e3 : Expr} {ta : TA} (hg : L2.Gl X "zip") (hm : X.mg "zip" = none) (ha : PA X [e, e2, e3] ta) (hs : starEach [e, e2, e3] X.env = (false, eval e X.env) :: starEach [e2, e3] X.env) (hpl : (backTo pos (starEach [e2, e3] X.env)).any (·.1) = false) :
    PI X (.Tuple elts kk tpos) (.Call (.Name "zip" p) [e, e2, e3] [] pos) (iZ3 X.K ta) := by
  refine ⟨fun pins s σ H R I h => ?_⟩
  refine Call_ (ld_blt I hg hm PyProof.Rows.boot_zip (PyProof.Rows.callWith_type1 (thn (ha.run pos pins s σ H _ I h) fun us s1 ⟨vs, H1, I1, r1, q1⟩ => ?_) hs hpl))
  obtain ⟨b1, a1, b2, a2, b3, a3, xs, ys, zs, ex, hq, hq2, hq3, q⟩ := q1
  subst ex
  cases r1 with
  | cons r rr =>
    cases rr with
    | cons r2 rr =>
      cases rr with
      | cons r3 rr =>
        cases rr
        cases r
        cases r2
        cases r3
        obtain ⟨its, rv, hb, hlt⟩ := sqB_its I1 hq
        obtain ⟨its2, rv2, hb2, hlt2⟩ := sqB_its I1 hq2
        obtain ⟨its3, rv3, hb3, hlt3⟩ := sqB_its I1 hq3
        refine zip_begins3 (begins_B b1 a1 its.toArray) (begins_B b2 a2 its2.toArray) (begins_B b3 a3 its3.toArray) hb hb2 hb3 fun h' hz hTI hTO g1 g2 g3 hsz hk => wpAny_pyIter_zip hz ?_
        have I2 : Inv X pins σ H1 { s1 with heap := h' } := I1.kept (t' := s1.toks) hk
        have S := zip_sep3 (N := s1.heap.objs.size) (fp1 := [a1]) (fp2 := [a2]) (fp3 := [a3]) (by simpa using hlt) (by simpa using hlt2) (by simpa using hlt3)
        refine ⟨s1.heap.objs.size + 5, [s1.heap.objs.size + 5, s1.heap.objs.size + 3, s1.heap.objs.size + 4, s1.heap.objs.size, s1.heap.objs.size + 1, s1.heap.objs.size + 2], _, _, H1, rfl, I2, turn_Z3 (b1 := b1) (b2 := b2) (b3 := b3) S (Nat.ne_of_lt hlt) (Nat.ne_of_lt (Nat.lt_succ_of_lt hlt2)) (Nat.ne_of_lt (Nat.lt_of_lt_of_le hlt3 (Nat.le_add_right _ _))), ⟨hz, hTI, ⟨_, _, _, hTO⟩, iterB_start g1, iterB_start g2, iterB_start g3⟩, isize I1 fun c hc => ?_, q⟩
        have e' : c = s1.heap.objs.size + 5 ∨ c = s1.heap.objs.size + 3 ∨ c = s1.heap.objs.size + 4 ∨ c = s1.heap.objs.size ∨ c = s1.heap.objs.size + 1 ∨ c = s1.heap.objs.size + 2 := by simpa using hc
        rcases e' with z | z | z | z | z | z <;> rw [z] <;> first | exact Nat.le_refl _ | exact Nat.le_add_right _ _
end
end MP
end

section
set_option linter.all false
set_option autoImplicit false
set_option maxHeartbeats 1000000
set_option maxRecDepth 100000
namespace MP
open PySem L2 PyProof.Rows

section
variable {P : Prog} {Φ : Calls} {ca : String → Option Addr} {k : Nat} {X : Cx} {W : WX}
def SrcOk (ca : String → Option Addr) (K : PySem.W.Frag) (F : Hp) (ms : List Addr) (gs : List D) (b : Bool) (a : Addr) (xs : List D) : Prop :=
  ∀ (ex' ms' : List Addr) (st' : Store) (H' : Hp), RS ca K ex' ms' st' H' → Same F (vw ex' ms' st' H') → ms <+: ms' → guardOk st' gs = true → ∃ vs, SqB K b H' a vs ∧ VRels ca K (vw ex' ms' st' H') ms' vs xs
theorem src_of {ex ms : List Addr} {st : Store} {H : Hp} (rs : RS ca X.K ex ms st H) {v : V} {d : D} {p : List D × List D} (r : VRel ca X.K (vw ex ms st H) ms v d) (e : iterSq st d = some p) :
    ∃ (b : Bool) (a : Addr), v = .ref a ∧ (∃ vs, SqB X.K b H a vs) ∧ SrcOk ca X.K (vw ex ms st H) ms p.2 b a p.1 := by
  unfold iterSq at e
  split at e
  · cases e
  · rename_i hn
    rcases iter_src (xs := p.1) (gs := p.2) rs r e with ⟨b, a, h1, h2, h3⟩ | ⟨s, h1, h2⟩
    · exact ⟨b, a, h1, h2, h3⟩
    · subst h1
      cases r
      exact absurd rfl (hn _)

theorem tup_made {ex ms : List Addr} {st : Store} {H : Hp} (rs : RS ca X.K ex ms st H) {T : Addr} (hT : H T = none) {vs : List V} {ds : List D} (rv : VRels ca X.K (vw ex ms st H) ms vs ds) :
    RS ca X.K ex ms st (upd H T (.tup vs)) ∧ Ext ex ms st H ms st (upd H T (.tup vs)) ∧ VRel ca X.K (vw ex ms st (upd H T (.tup vs))) ms (.ref T) (.tup ds) := by
  obtain ⟨r1, r2, r3⟩ := rs.made (o := .tup vs) hT
  exact ⟨r1, r2, .tup (.inl (.inl r3)) (rv.mono r2.same List.prefix_rfl)⟩
theorem jok_E {F : Hp} {ms : List Addr} {gs xs : List D} {b : Bool} {a : Addr} (h : SrcOk ca X.K F ms gs b a xs) : JOk ca X.K F ms gs (enuF xs) (ItE X.K b a) := by
  intro ex' ms' st' H' i rs sm pr g hi
  obtain ⟨vs, h1, h2⟩ := h ex' ms' st' H' rs sm pr g
  have hl : (enuF xs).length = xs.length := by simp [enuF]
  split
  · rename_i e
    rw [List.getElem?_eq_none_iff] at e
    exact ⟨vs, h1, by rw [h2.length]; omega⟩
  · rename_i d e
    have e' : xs[i]?.map (fun x => D.tup [.int (i : Nat), x]) = some d := by
      rw [← e]
      unfold enuF
      rw [List.getElem?_map, List.getElem?_zipIdx]
      cases xs[i]? <;> simp
    rw [Option.map_eq_some_iff] at e'
    obtain ⟨x, e1, rfl⟩ := e'
    obtain ⟨v, e2, r⟩ := h2.getD e1
    refine ⟨⟨vs, v, h1, e2⟩, ?_⟩
    rintro v' H'' ⟨T, x', rfl, hT, rfl, q⟩
    have e3 := q vs h1
    rw [e2] at e3
    cases e3
    exact tup_made rs hT (.cons (.int _) (.cons r .nil))
theorem guard2 {st : Store} {g g2 : List D} (h : guardOk st (g ++ g2) = true) : guardOk st g = true ∧ guardOk st g2 = true := guardOk_append h
theorem jok_Z2 {F : Hp} {ms : List Addr} {p q : List D × List D} {b1 b2 : Bool} {a1 a2 : Addr} (h1 : SrcOk ca X.K F ms p.2 b1 a1 p.1) (h2 : SrcOk ca X.K F ms q.2 b2 a2 q.1) :
    JOk ca X.K F ms (p.2 ++ q.2) ((p.1.zip q.1).map fun z => .tup [z.1, z.2]) (ItZ2 X.K b1 a1 b2 a2) := by
  intro ex' ms' st' H' i rs sm pr g hi
  obtain ⟨g1, g2⟩ := guard2 g
  obtain ⟨vs, s1, r1⟩ := h1 ex' ms' st' H' rs sm pr g1
  obtain ⟨ws, s2, r2⟩ := h2 ex' ms' st' H' rs sm pr g2
  rw [List.length_map, List.length_zip] at hi
  split
  · rename_i e
    rw [List.getElem?_eq_none_iff, List.length_map, List.length_zip] at e
    exact ⟨vs, ws, s1, s2, by rw [r1.length, r2.length]; omega⟩
  · rename_i d e
    rw [List.getElem?_map, Option.map_eq_some_iff] at e
    obtain ⟨⟨x, y⟩, e1, rfl⟩ := e
    rw [List.getElem?_zip_eq_some] at e1
    obtain ⟨v, e2, r⟩ := r1.getD e1.1
    obtain ⟨v2, e3, r'⟩ := r2.getD e1.2
    refine ⟨⟨vs, ws, v, v2, s1, s2, e2, e3⟩, ?_⟩
    rintro v' H'' ⟨T, x', y', rfl, hT, rfl, q1, q2⟩
    have e4 := q1 vs s1
    rw [e2] at e4
    cases e4
    have e4 := q2 ws s2
    rw [e3] at e4
    cases e4
    exact tup_made rs hT (.cons r (.cons r' .nil))
theorem jok_Z3 {F : Hp} {ms : List Addr} {p q t : List D × List D} {b1 b2 b3 : Bool} {a1 a2 a3 : Addr} (h1 : SrcOk ca X.K F ms p.2 b1 a1 p.1) (h2 : SrcOk ca X.K F ms q.2 b2 a2 q.1) (h3 : SrcOk ca X.K F ms t.2 b3 a3 t.1) :
    JOk ca X.K F ms (p.2 ++ (q.2 ++ t.2)) ((p.1.zip (q.1.zip t.1)).map fun z => .tup [z.1, z.2.1, z.2.2]) (ItZ3 X.K b1 a1 b2 a2 b3 a3) := by
  intro ex' ms' st' H' i rs sm pr g hi
  obtain ⟨g1, g2⟩ := guard2 g
  obtain ⟨g2, g3⟩ := guard2 g2
  obtain ⟨vs, s1, r1⟩ := h1 ex' ms' st' H' rs sm pr g1
  obtain ⟨ws, s2, r2⟩ := h2 ex' ms' st' H' rs sm pr g2
  obtain ⟨us, s3, r3⟩ := h3 ex' ms' st' H' rs sm pr g3
  rw [List.length_map, List.length_zip, List.length_zip] at hi
  split
  · rename_i e
    rw [List.getElem?_eq_none_iff, List.length_map, List.length_zip, List.length_zip] at e
    exact ⟨vs, ws, us, s1, s2, s3, by rw [r1.length, r2.length, r3.length]; omega⟩
  · rename_i d e
    rw [List.getElem?_map, Option.map_eq_some_iff] at e
    obtain ⟨⟨x, y, z⟩, e1, rfl⟩ := e
    rw [List.getElem?_zip_eq_some, List.getElem?_zip_eq_some] at e1
    obtain ⟨v, e2, r⟩ := r1.getD e1.1
    obtain ⟨v2, e3, r'⟩ := r2.getD e1.2.1
    obtain ⟨v3, e4, r''⟩ := r3.getD e1.2.2
    refine ⟨⟨vs, ws, us, v, v2, v3, s1, s2, s3, e2, e3, e4⟩, ?_⟩
    rintro v' H'' ⟨T, x', y', z', rfl, hT, rfl, q1, q2, q3⟩
    have e5 := q1 vs s1
    rw [e2] at e5
    cases e5
    have e5 := q2 ws s2
    rw [e3] at e5
    cases e5
    have e5 := q3 us s3
    rw [e4] at e5
    cases e5
    exact tup_made rs hT (.cons r (.cons r' (.cons r'' .nil)))


theorem post.bdE {α β γ δ : Type} {rel : Hp → List Addr → β → α → Prop} {rel2 : Hp → List Addr → δ → γ → Prop} {K : PySem.W.Frag} {ex ms : List Addr} {st : Store} {H : Hp} {r : R α} {f : α → Store → R γ} {Q : δ → Hp → Prop} {Q1 : β → Hp → Prop} {E : XK} (h : post ca K rel2 ex ms st H (r.bd f) Q E)
    (k : ∀ (a : α) (st1 : Store) (ms1 : List Addr) (H1 : Hp) (b : β), r = .ok a st1 → RS ca K ex ms1 st1 H1 → Ext ex ms st H ms1 st1 H1 → rel (vw ex ms1 st1 H1) ms1 b a → post ca K rel2 ex ms1 st1 H1 (f a st1) Q E → Q1 b H1) : post ca K rel ex ms st H r Q1 E := by
  cases r with
  | ok a st' => exact fun ms' H' b q1 q2 q3 => k a st' ms' H' b rfl q1 q2 q3 (post.ext q2 h)
  | exn c vs st' => exact h
  | stuck => exact h
theorem evalEs_length {ρ : MP.Env} : ∀ {cs : List CE} {st : Store} {ds : List D} {st' : Store}, evalEs P Φ ρ cs st = .ok ds st' → ds.length = cs.length
  | [], st, ds, st', h => by simp only [evalEs, R.ok.injEq] at h; rw [← h.1]; rfl
  | c :: cs, st, ds, st', h => by
    simp only [evalEs] at h
    cases q : evalM P Φ ρ .v c st with
    | ok x st1 =>
      rw [q, R.bd_ok] at h
      cases q2 : evalEs P Φ ρ cs st1 with
      | ok xs st2 =>
        rw [q2, R.bd_ok] at h
        simp only [R.ok.injEq] at h
        rw [← h.1, List.length_cons, List.length_cons, evalEs_length q2]
      | exn c vs st2 => rw [q2] at h; cases h
      | stuck => rw [q2] at h; cases h
    | exn c vs st2 => rw [q] at h; cases h
    | stuck => rw [q] at h; cases h
theorem i_rng1 {tg e : Expr} {c : CE} {p pos : Pos} (hg : L2.Gl X (nmS "range")) (hm : X.mg (nmS "range") = none) (ha : PA X [e] (tAs P Φ ca X.K W [c])) (hs : noStar e = true) : PI X tg (.Call (.Name (nmS "range") p) [e] [] pos) (tI P Φ ca X.K W (.rng [c])) := by
  refine (pi_range1 (tg := tg) (p := p) (pos := pos) hg hm ha (star_each hs)).imp fun σ H R h => ?_
  obtain ⟨ex, ms, st, ρ, rs, sl, h⟩ := h
  simp only [evalM] at h
  refine ⟨ex, ms, st, ρ, rs, sl, h.bdE fun ds st1 ms1 H1 vs eq rs1 x1 r1 h1 => ?_⟩
  have hl := evalEs_length eq
  obtain ⟨d, e1, h1⟩ := h1.opt
  rw [Option.map_eq_some_iff] at e1
  obtain ⟨l, e1, rfl⟩ := e1
  unfold rngF at e1
  split at e1
  · rename_i j
    cases r1 with
    | cons rr rt =>
      cases rr
      cases rt
      split at e1
      · rename_i hb
        rw [Bool.and_eq_true, decide_eq_true_eq, decide_eq_true_eq] at hb
        cases e1
        exact ⟨j, rfl, hb.1, hb.2, h1.here rs1 ⟨_, _, rfl, jok_rng⟩⟩
      · cases e1
  · simp at hl
  · cases e1
theorem i_rng2 {tg e e2 : Expr} {c c2 : CE} {p pos : Pos} (hg : L2.Gl X (nmS "range")) (hm : X.mg (nmS "range") = none) (ha : PA X [e, e2] (tAs P Φ ca X.K W [c, c2])) (hs : noStar e = true) (hs2 : noStar e2 = true) : PI X tg (.Call (.Name (nmS "range") p) [e, e2] [] pos) (tI P Φ ca X.K W (.rng [c, c2])) := by
  refine (pi_range2 (tg := tg) (p := p) (pos := pos) hg hm ha (by rw [star_each hs, star_each hs2]; rfl) (star_each hs2)).imp fun σ H R h => ?_
  obtain ⟨ex, ms, st, ρ, rs, sl, h⟩ := h
  simp only [evalM] at h
  refine ⟨ex, ms, st, ρ, rs, sl, h.bdE fun ds st1 ms1 H1 vs eq rs1 x1 r1 h1 => ?_⟩
  have hl := evalEs_length eq
  obtain ⟨d, e1, h1⟩ := h1.opt
  rw [Option.map_eq_some_iff] at e1
  obtain ⟨l, e1, rfl⟩ := e1
  unfold rngF at e1
  split at e1
  · simp at hl
  · rename_i i j
    cases r1 with
    | cons rr rt =>
      cases rr
      cases rt with
      | cons rr rt =>
        cases rr
        cases rt
        split at e1
        · rename_i hb
          simp only [Bool.and_eq_true, decide_eq_true_eq] at hb
          cases e1
          exact ⟨i, j, rfl, ⟨hb.1.1.1, hb.1.1.2, hb.1.2, hb.2⟩, h1.here rs1 ⟨_, _, rfl, jok_rng⟩⟩
        · cases e1
  · cases e1

section
variable {elts : List Expr} {kk : Nat} {p pos tpos : Pos}
theorem i_enu {e : Expr} {cs : List CE} (hg : L2.Gl X (nmS "enumerate")) (hm : X.mg (nmS "enumerate") = none) (ha : PA X [e] (tAs P Φ ca X.K W cs)) (hs : noStar e = true) (hl2 : cs.length = 1) :
    PI X (.Tuple elts kk tpos) (.Call (.Name (nmS "enumerate") p) [e] [] pos) (tI P Φ ca X.K W (.enu cs)) := by
  refine (pi_E (elts := elts) (kk := kk) (tpos := tpos) (p := p) (pos := pos) hg hm ha (star_each hs)).imp fun σ H R h => ?_
  obtain ⟨ex, ms, st, ρ, rs, sl, h⟩ := h
  simp only [evalM] at h
  refine ⟨ex, ms, st, ρ, rs, sl, h.bdE fun ds st1 ms1 H1 vs eq rs1 x1 r1 h1 => ?_⟩
  have hl := evalEs_length eq
  rw [hl2] at hl
  obtain ⟨d, e1, h1⟩ := h1.opt
  rw [Option.bind_eq_some_iff] at e1
  obtain ⟨ps, e1, e2⟩ := e1
  match ds, hl, r1 with
  | [d1], _, .cons rr .nil =>
    simp only [List.mapM_cons, List.mapM_nil, Option.bind_eq_bind, Option.bind_eq_some_iff, Option.pure_def, Option.some.injEq] at e1
    obtain ⟨q1, e3, _, rfl, rfl⟩ := e1
    simp only [enuK, Option.some.injEq] at e2
    subst e2
    obtain ⟨b, a, rfl, ⟨xs, h2⟩, h3⟩ := src_of rs1 rr e3
    exact ⟨b, a, xs, rfl, h2, h1.here rs1 ⟨_, _, rfl, jok_E h3⟩⟩
theorem i_zip2 {e e2 : Expr} {cs : List CE} (hg : L2.Gl X (nmS "zip")) (hm : X.mg (nmS "zip") = none) (ha : PA X [e, e2] (tAs P Φ ca X.K W cs)) (hs : noStar e = true) (hs2 : noStar e2 = true) (hl2 : cs.length = 2) :
    PI X (.Tuple elts kk tpos) (.Call (.Name (nmS "zip") p) [e, e2] [] pos) (tI P Φ ca X.K W (.zip cs)) := by
  refine (pi_Z2 (elts := elts) (kk := kk) (tpos := tpos) (p := p) (pos := pos) hg hm ha (star_each hs) (star_any (by simp [hs2]))).imp fun σ H R h => ?_
  obtain ⟨ex, ms, st, ρ, rs, sl, h⟩ := h
  simp only [evalM] at h
  refine ⟨ex, ms, st, ρ, rs, sl, h.bdE fun ds st1 ms1 H1 vs eq rs1 x1 r1 h1 => ?_⟩
  have hl := evalEs_length eq
  rw [hl2] at hl
  obtain ⟨d, e1, h1⟩ := h1.opt
  rw [Option.bind_eq_some_iff] at e1
  obtain ⟨ps, e1, e2⟩ := e1
  match ds, hl, r1 with
  | [d1, d2], _, .cons rr (.cons rr2 .nil) =>
    simp only [List.mapM_cons, List.mapM_nil, Option.bind_eq_bind, Option.bind_eq_some_iff, Option.pure_def, Option.some.injEq] at e1
    obtain ⟨q1, e3, _, ⟨q2, e4, _, rfl, rfl⟩, rfl⟩ := e1
    simp only [zipK, Option.some.injEq] at e2
    subst e2
    obtain ⟨b, a, rfl, ⟨xs, h2⟩, h3⟩ := src_of rs1 rr e3
    obtain ⟨b', a', rfl, ⟨xs', h2'⟩, h3'⟩ := src_of rs1 rr2 e4
    exact ⟨b, a, b', a', xs, xs', rfl, h2, h2', h1.here rs1 ⟨_, _, rfl, jok_Z2 h3 h3'⟩⟩
theorem i_zip3 {e e2 e3 : Expr} {cs : List CE} (hg : L2.Gl X (nmS "zip")) (hm : X.mg (nmS "zip") = none) (ha : PA X [e, e2, e3] (tAs P Φ ca X.K W cs)) (hs : noStar e = true) (hs2 : noStar e2 = true) (hs3 : noStar e3 = true) (hl2 : cs.length = 3) :
    PI X (.Tuple elts kk tpos) (.Call (.Name (nmS "zip") p) [e, e2, e3] [] pos) (tI P Φ ca X.K W (.zip cs)) := by
  refine (pi_Z3 (elts := elts) (kk := kk) (tpos := tpos) (p := p) (pos := pos) hg hm ha (star_each hs) (star_any (by simp [hs2, hs3]))).imp fun σ H R h => ?_
  obtain ⟨ex, ms, st, ρ, rs, sl, h⟩ := h
  simp only [evalM] at h
  refine ⟨ex, ms, st, ρ, rs, sl, h.bdE fun ds st1 ms1 H1 vs eq rs1 x1 r1 h1 => ?_⟩
  have hl := evalEs_length eq
  rw [hl2] at hl
  obtain ⟨d, e1, h1⟩ := h1.opt
  rw [Option.bind_eq_some_iff] at e1
  obtain ⟨ps, e1, e2⟩ := e1
  match ds, hl, r1 with
  | [d1, d2, d3], _, .cons rr (.cons rr2 (.cons rr3 .nil)) =>
    simp only [List.mapM_cons, List.mapM_nil, Option.bind_eq_bind, Option.bind_eq_some_iff, Option.pure_def, Option.some.injEq] at e1
    obtain ⟨q1, e3, _, ⟨q2, e4, _, ⟨q3, e5, _, rfl, rfl⟩, rfl⟩, rfl⟩ := e1
    simp only [zipK, Option.some.injEq] at e2
    subst e2
    obtain ⟨b, a, rfl, ⟨xs, h2⟩, h3⟩ := src_of rs1 rr e3
    obtain ⟨b', a', rfl, ⟨xs', h2'⟩, h3'⟩ := src_of rs1 rr2 e4
    obtain ⟨b'', a'', rfl, ⟨xs'', h2''⟩, h3''⟩ := src_of rs1 rr3 e5
    exact ⟨b, a, b', a', b'', a'', xs, xs', xs'', rfl, h2, h2', h2'', h1.here rs1 ⟨_, _, rfl, jok_Z3 h3 h3' h3''⟩⟩
end
end
end MP
end

section
set_option linter.all false
set_option autoImplicit false
set_option maxHeartbeats 1000000
set_option maxRecDepth 100000
namespace MP
open PySem L2 PyProof.Rows

mutual
def Tg.vars : Tg → List Nat
  | .var i => [i]
  | .tup ts => Tg.varss ts
def Tg.varss : List Tg → List Nat
  | [] => []
  | t :: ts => Tg.vars t ++ Tg.varss ts
end

section
variable {P : Prog} {Φ : Calls} {ca : String → Option Addr} {k : Nat} {X : Cx} {W : WX}
def tG (ca : String → Option Addr) (K : PySem.W.Frag) (tg : Tg) : TG := fun v σ H Q => ∃ (ex ms : List Addr) (st : Store) (ρ ρ' : MP.Env) (d : D), RS ca K ex ms st H ∧ SlotRel ca K (vw ex ms st H) ms σ ρ ∧ VRel ca K (vw ex ms st H) ms v d ∧ bindT st tg d ρ = some ρ' ∧
  ∀ σ' : L2.St, SlotRel ca K (vw ex ms st H) ms σ' ρ' → σ'.length = σ.length → (∀ i, i ∉ tg.vars → σ'[i]? = σ[i]?) → Q σ' H
def tGs (ca : String → Option Addr) (K : PySem.W.Frag) (tgs : List Tg) : TGs := fun vs σ H Q => ∃ (ex ms : List Addr) (st : Store) (ρ ρ' : MP.Env) (ds : List D), RS ca K ex ms st H ∧ SlotRel ca K (vw ex ms st H) ms σ ρ ∧ VRels ca K (vw ex ms st H) ms vs ds ∧ bindTs st tgs ds ρ = some ρ' ∧
  ∀ σ' : L2.St, SlotRel ca K (vw ex ms st H) ms σ' ρ' → σ'.length = σ.length → (∀ i, i ∉ Tg.varss tgs → σ'[i]? = σ[i]?) → Q σ' H
theorem assign_each {e : Expr} {es : List Expr} {env : PySem.Env} (h : noStar e = true) : assignEach (e :: es) env = (false, assign e env) :: assignEach es env := by
  cases e <;> first | rfl | (simp [noStar] at h)
theorem assign_len {env : PySem.Env} : ∀ {es : List Expr}, es.all noStar = true → (assignEach es env).length = es.length
  | [], _ => rfl
  | e :: es, h => by
    rw [List.all_cons, Bool.and_eq_true] at h
    rw [assign_each h.1, List.length_cons, List.length_cons, assign_len h.2]
theorem assign_ix {env : PySem.Env} : ∀ {es : List Expr}, es.all noStar = true → (assignEach es env).findIdx? (·.1) = none
  | [], _ => rfl
  | e :: es, h => by
    rw [List.all_cons, Bool.and_eq_true] at h
    rw [assign_each h.1, List.findIdx?_cons]
    simp [assign_ix h.2]
theorem g_var {i : Nat} {x : Str} {pos : Pos} (hN : X.N.Nodup) (hi : X.N[i]? = some x) (hx : Loc X.env.scope x) (hf : X.fn x = true ∨ X.env.scope.names.lookup x = some .local) : PG X (.Name x pos) (tG ca X.K (.var i)) :=
  (pg_name hN hi hx hf).imp fun v σ H Q => by
    rintro ⟨ex, ms, st, ρ, ρ', d, rs, sl, r, e, h⟩
    simp only [bindT] at e
    split at e
    · cases e
      exact h _ (sl.set r) List.length_set fun j hj => List.getElem?_set_ne (fun z => hj (by simp [Tg.vars, z]))
    · cases e
theorem g_nil : PGs X [] (tGs ca X.K []) :=
  pgs_nil.imp fun v σ H Q => by
    rintro ⟨ex, ms, st, ρ, ρ', ds, rs, sl, r, e, h⟩
    cases r with
    | nil =>
      simp only [bindTs, Option.some.injEq] at e
      subst e
      exact ⟨rfl, h σ sl rfl fun _ _ => rfl⟩
    | cons _ _ => simp [bindTs] at e
theorem g_cons {e : Expr} {es : List Expr} {t : Tg} {ts : List Tg} (h1 : PG X e (tG ca X.K t)) (h2 : PGs X es (tGs ca X.K ts)) (hs : noStar e = true) : PGs X (e :: es) (tGs ca X.K (t :: ts)) :=
  (pgs_cons h1 h2 (by rw [assign_each hs]; rfl)).imp fun v σ H Q => by
    rintro ⟨ex, ms, st, ρ, ρ', ds, rs, sl, r, e, h⟩
    cases r with
    | nil => simp [bindTs] at e
    | @cons v d vs ds rr rt =>
      simp only [bindTs] at e
      split at e
      · rename_i ρ1 e1
        refine ⟨v, vs, rfl, ex, ms, st, ρ, ρ1, d, rs, sl, rr, e1, fun σ1 sl1 l1 a1 => ⟨ex, ms, st, ρ1, ρ', ds, rs, sl1, rt, e, fun σ2 sl2 l2 a2 => h σ2 sl2 (l2.trans l1) fun i hi => ?_⟩⟩
        simp only [Tg.varss, List.mem_append, not_or] at hi
        rw [a2 i hi.2, a1 i hi.1]
      · cases e
theorem bindTs_length {st : Store} : ∀ {ts : List Tg} {ds : List D} {ρ ρ' : MP.Env}, bindTs st ts ds ρ = some ρ' → ts.length = ds.length
  | [], [], _, _, _ => rfl
  | [], _ :: _, _, _, h => by simp [bindTs] at h
  | _ :: _, [], _, _, h => by simp [bindTs] at h
  | t :: ts, d :: ds, ρ, ρ', h => by
    simp only [bindTs] at h
    split at h
    · rw [List.length_cons, List.length_cons, bindTs_length h]
    · cases h
theorem g_tup {es : List Expr} {ts : List Tg} {kk : Nat} {pos : Pos} (hc : X.calm = true) (h : PGs X es (tGs ca X.K ts)) (hs : es.all noStar = true) (hl : ts.length = es.length) : PG X (.Tuple es kk pos) (tG ca X.K (.tup ts)) :=
  (PG.or (pg_tup hc h (assign_len hs) (assign_ix hs)) (pg_lst hc h (assign_len hs) (assign_ix hs))).imp fun v σ H Q => by
    rintro ⟨ex, ms, st, ρ, ρ', d, rs, sl, r, e, h⟩
    simp only [bindT] at e
    split at e
    · rename_i xs e1
      obtain ⟨a, vs, rfl, hq, rv⟩ := seq_rel rs r e1
      have hlen : vs.length = es.length := by rw [rv.length, ← bindTs_length e, hl]
      have fin : tGs ca X.K ts vs σ H Q := ⟨ex, ms, st, ρ, ρ', xs, rs, sl, rv, e, fun σ' s' l' a' => h σ' s' l' a'⟩
      rcases hq with hq | hq
      · exact .inr ⟨a, vs, rfl, hq, hlen, fin⟩
      · exact .inl ⟨a, vs, rfl, hq, hlen, fin⟩
    · cases e

theorem RS.aside {ex ms : List Addr} {st : Store} {H : Hp} {D : Addr} {o : HO} (rs : RS ca X.K ex ms st H) (hD : H D = none) : RS ca X.K (D :: ex) ms st (upd H D o) ∧ vw (D :: ex) ms st (upd H D o) = vw ex ms st H := by
  obtain ⟨n1, n2⟩ := rs.fresh hD
  have hv : vw (D :: ex) ms st (upd H D o) = vw ex ms st H := by
    funext b
    by_cases hb : b = D
    · subst hb
      have : vw ex ms st H b = none := by unfold vw; split; rfl; exact hD
      rw [this]
      unfold vw
      rw [if_pos (by simp)]
    · unfold vw
      have : (D :: ex).contains b = ex.contains b := by
        rw [List.contains_cons, beq_eq_false_iff_ne.mpr hb, Bool.false_or]
      rw [this, upd_ne hb]
  refine ⟨⟨rs.len, rs.nd, fun b hb => ?_, fun b hb => ?_, fun b hb => ?_, fun i b c h1 h2 => ?_⟩, hv⟩
  · rcases List.mem_cons.mp hb with z | z
    · rw [z]; exact n1
    · exact rs.exm b z
  · by_cases z : b = D
    · rw [z, upd_same]; simp
    · rw [upd_ne z]
      rcases List.mem_cons.mp hb with q | q
      · exact absurd q z
      · exact rs.exH b q
  · rw [upd_ne (fun z => n1 (by rw [← z]; exact hb))]; exact rs.there b hb
  · have hm := List.mem_of_getElem? h1
    rw [hv]
    exact (rs.cells i b c h1 h2).mono (Same.refl _) List.prefix_rfl (upd_ne (fun z => n1 (by rw [← z]; exact hm)))
/-- what was aside has changed -/
theorem RS.asideW {ex ms : List Addr} {st : Store} {H : Hp} {D : Addr} {o : HO} (rs : RS ca X.K (D :: ex) ms st H) : RS ca X.K (D :: ex) ms st (upd H D o) ∧ vw (D :: ex) ms st (upd H D o) = vw (D :: ex) ms st H := by
  have n1 : D ∉ ms := rs.exm D List.mem_cons_self
  have hv : vw (D :: ex) ms st (upd H D o) = vw (D :: ex) ms st H := by
    funext b
    by_cases hb : b = D
    · subst hb; unfold vw; rw [if_pos (by simp), if_pos (by simp)]
    · unfold vw; rw [upd_ne hb]
  refine ⟨⟨rs.len, rs.nd, rs.exm, fun b hb => ?_, fun b hb => ?_, fun i b c h1 h2 => ?_⟩, hv⟩
  · by_cases z : b = D
    · rw [z, upd_same]; simp
    · rw [upd_ne z]; exact rs.exH b hb
  · rw [upd_ne (fun z => n1 (by rw [← z]; exact hb))]; exact rs.there b hb
  · have hm := List.mem_of_getElem? h1
    rw [hv]
    exact (rs.cells i b c h1 h2).mono (Same.refl _) List.prefix_rfl (upd_ne (fun z => n1 (by rw [← z]; exact hm)))
theorem vw_drop {ex ms : List Addr} {st : Store} {H : Hp} {D : Addr} : Same (vw (D :: ex) ms st H) (vw ex ms st H) := fun a o h => by
  obtain ⟨h1, h2, h3⟩ := vw_some.mp h
  exact vw_some.mpr ⟨fun z => h1 (List.mem_cons_of_mem _ z), h2, h3⟩
/-- what was aside stands fast -/
theorem RS.fast {ex ms : List Addr} {st : Store} {H : Hp} {D : Addr} {o : HO} (rs : RS ca X.K (D :: ex) ms st H) (hn : D ∉ ex) (hD : H D = some o) : RS ca X.K ex ms st H ∧ vw ex ms st H D = some o := by
  have n1 : D ∉ ms := rs.exm D List.mem_cons_self
  refine ⟨⟨rs.len, rs.nd, fun b hb => rs.exm b (List.mem_cons_of_mem _ hb), fun b hb => rs.exH b (List.mem_cons_of_mem _ hb), rs.there, fun i b c h1 h2 => (rs.cells i b c h1 h2).mono vw_drop List.prefix_rfl rfl⟩, vw_some.mpr ⟨hn, ?_, hD⟩⟩
  cases q : liveB ms st D with
  | false => rfl
  | true => exact absurd (liveB_mem q) n1
/-- what was aside becomes a cell -/
theorem RS.adopt {ex ms : List Addr} {st : Store} {H : Hp} {D : Addr} {o : HO} {c : Cell} (rs : RS ca X.K (D :: ex) ms st H) (hn : D ∉ ex) (hD : H D = some o) (hd : c.isDead = false) (hc : CRel ca X.K (vw (D :: ex) ms st H) ms H D c) :
    RS ca X.K ex (ms ++ [D]) (st ++ [c]) H ∧ Same (vw (D :: ex) ms st H) (vw ex (ms ++ [D]) (st ++ [c]) H) := by
  have n1 : D ∉ ms := rs.exm D List.mem_cons_self
  have sm : Same (vw (D :: ex) ms st H) (vw ex (ms ++ [D]) (st ++ [c]) H) := fun b u q => by
    obtain ⟨q1, q2, q3⟩ := vw_some.mp q
    have nb : b ≠ D := fun z => q1 (z ▸ List.mem_cons_self)
    refine vw_some.mpr ⟨fun z => q1 (List.mem_cons_of_mem _ z), ?_, q3⟩
    rw [liveB_push rs.len, q2, beq_eq_false_iff_ne.mpr (Ne.symm nb)]; rfl
  have pr : ms <+: ms ++ [D] := List.prefix_append _ _
  refine ⟨⟨?_, ?_, fun b hb hm => ?_, fun b hb => rs.exH b (List.mem_cons_of_mem _ hb), fun b hb => ?_, fun i b d h1 h2 => ?_⟩, sm⟩
  · rw [List.length_append, List.length_append, rs.len]; rfl
  · rw [List.nodup_append]
    refine ⟨rs.nd, by simp, fun x hx y hy z => ?_⟩
    have : y = D := by simpa using hy
    subst this; subst z; exact n1 hx
  · rcases List.mem_append.mp hm with q | q
    · exact rs.exm b (List.mem_cons_of_mem _ hb) q
    · have : b = D := by simpa using q
      subst this; exact hn hb
  · rcases List.mem_append.mp hb with q | q
    · exact rs.there b q
    · have : b = D := by simpa using q
      subst this; rw [hD]; simp
  · rcases get_push h1 with q | ⟨q, z⟩
    · rcases get_push h2 with q2 | ⟨q2, _⟩
      · exact (rs.cells i b d q q2).mono sm pr rfl
      · exfalso
        rw [q2, ← rs.len, List.getElem?_eq_none (Nat.le_refl _)] at q
        cases q
    · subst z
      rcases get_push h2 with q2 | ⟨_, z⟩
      · exfalso
        rw [q, rs.len, List.getElem?_eq_none (Nat.le_refl _)] at q2
        cases q2
      · subst z
        exact hc.mono sm pr rfl

theorem wipe_get {σ : L2.St} {i : Nat} : ∀ {vs : List Nat}, (L2.wipe σ vs)[i]? = if i ∈ vs ∧ i < σ.length then some none else σ[i]?
  | [] => by simp [L2.wipe]
  | v :: vs => by
    unfold L2.wipe
    by_cases hi : v = i
    · subst hi
      by_cases hl : v < σ.length
      · rw [List.getElem?_set_self (by rw [wipe_length]; exact hl), if_pos ⟨List.mem_cons_self, hl⟩]
      · rw [List.getElem?_eq_none (by rw [List.length_set, wipe_length]; omega), if_neg (fun z => hl z.2), List.getElem?_eq_none (by omega)]
    · rw [List.getElem?_set_ne hi, wipe_get (vs := vs)]
      have : (i ∈ v :: vs) ↔ i ∈ vs := by simp [Ne.symm hi]
      simp only [this]
theorem wipe_back {σ σ' : L2.St} {vs ws : List Nat} (hl : σ'.length = (L2.wipe σ vs).length) (ha : ∀ i, i ∉ ws → σ'[i]? = (L2.wipe σ vs)[i]?) (hw : ∀ i, i ∈ ws → i ∈ vs) : L2.wipe σ' vs = L2.wipe σ vs := by
  apply List.ext_getElem?
  intro i
  rw [wipe_length] at hl
  rw [wipe_get, hl]
  by_cases hi : i ∈ vs ∧ i < σ.length
  · rw [if_pos hi, wipe_get, if_pos hi]
  · rw [if_neg hi]
    by_cases hv : i ∈ vs
    · have hn : ¬ i < σ.length := fun z => hi ⟨hv, z⟩
      rw [List.getElem?_eq_none (by omega), List.getElem?_eq_none (by rw [wipe_length]; omega)]
    · exact ha i fun z => hv (hw i z)

theorem compL_noExn {step : D → List D → Store → R (List D)} (hs : ∀ x acc st c vs st', step x acc st ≠ .exn c vs st') {gs : List D} : ∀ {xs acc : List D} {st : Store} {c : String} {vs : List D} {st' : Store}, compL step gs xs acc st ≠ .exn c vs st'
  | [], acc, st, c, vs, st', h => by
    simp only [compL] at h
    split at h <;> cases h
  | x :: xs, acc, st, c, vs, st', h => by
    simp only [compL] at h
    split at h
    · cases q : step x acc st with
      | ok a st1 => rw [q, R.bd_ok] at h; exact compL_noExn hs h
      | exn c' vs' st1 => exact hs _ _ _ _ _ _ q
      | stuck => rw [q] at h; cases h
    · cases h
theorem noExn_ne {α : Type} {r : R α} {c : String} {vs : List D} {st : Store} : noExn r ≠ .exn c vs st := by
  unfold noExn
  cases r <;> simp
theorem lcStep_ne {ifs elt : MP.Env → Store → R D} {tg : Tg} {ρ : MP.Env} : ∀ x acc st c vs st', lcStep ifs elt tg ρ x acc st ≠ .exn c vs st' := by
  intro x acc st c vs st' h
  unfold lcStep at h
  split at h
  · exact noExn_ne h
  · cases h
/-- what a turn did -/
theorem lcStep_ok {ifs elt : MP.Env → Store → R D} {tg : Tg} {ρ : MP.Env} {x : D} {acc acc' : List D} {st st' : Store} (h : lcStep ifs elt tg ρ x acc st = .ok acc' st') :
    ∃ ρ' b st1, bindT st tg x ρ = some ρ' ∧ ifs ρ' st = .ok (.bl b) st1 ∧ if b = true then ∃ y, elt ρ' st1 = .ok y st' ∧ acc.length < LINE ∧ acc' = acc ++ [y] else acc' = acc ∧ st' = st1 := by
  unfold lcStep at h
  split at h
  · rename_i ρ' e
    have h' : ((ifs ρ' st).bd fun k st => match k with
    | .bl true => (elt ρ' st).bd fun y st => if acc.length < LINE then .ok (acc ++ [y]) st else .stuck
    | .bl false => .ok acc st
    | _ => .stuck) = .ok acc' st' := by
      revert h
      generalize ((ifs ρ' st).bd fun k st => match k with
    | .bl true => (elt ρ' st).bd fun y st => if acc.length < LINE then .ok (acc ++ [y]) st else .stuck
    | .bl false => .ok acc st
    | _ => .stuck) = r
      cases r <;> simp [noExn]
    cases q : ifs ρ' st with
    | stuck => rw [q] at h'; cases h'
    | exn c vs st1 => rw [q] at h'; cases h'
    | ok k st1 =>
      rw [q, R.bd_ok] at h'
      split at h'
      · cases q2 : elt ρ' st1 with
        | stuck => rw [q2] at h'; cases h'
        | exn c vs st1 => rw [q2] at h'; cases h'
        | ok y st2 =>
          rw [q2, R.bd_ok] at h'
          split at h'
          · rename_i hl
            cases h'
            exact ⟨ρ', true, st1, e, q, by rw [if_pos rfl]; exact ⟨y, q2, hl, rfl⟩⟩
          · cases h'
      · cases h'
        exact ⟨ρ', false, _, e, q, by simp⟩
      · cases h'
  · cases h

def tTs (P : Prog) (Φ : Calls) (ca : String → Option Addr) (K : PySem.W.Frag) (W : WX) (cs : List CE) : TT := fun σ H Q => G ca K σ H fun ex ms st ρ => post ca K relB ex ms st H (evalIfs P Φ ρ cs st) Q (WE' W σ)
theorem _root_.L2.PTs.imp {X : Cx} {e : List Expr} {t t' : TT} (h : PTs X e t) (w : ∀ σ H Q, t' σ H Q → t σ H Q) : PTs X e t' := ⟨fun pins s σ H Q I q => h.run pins s σ H Q I (w σ H Q q)⟩
theorem ts_nil : PTs X [] (tTs P Φ ca X.K W []) := pts_nil.imp fun σ H Q => by
  rintro ⟨ex, ms, st, ρ, rs, sl, h⟩
  simp only [evalIfs] at h
  exact h.here rs rfl
theorem ts_one {e : Expr} {c : CE} (h : PT X e (tT P Φ ca X.K W c)) : PTs X [e] (tTs P Φ ca X.K W [c]) := (pts_one h).imp fun σ H Q => by
  rintro ⟨ex, ms, st, ρ, rs, sl, h⟩
  simp only [evalIfs] at h
  exact ⟨ex, ms, st, ρ, rs, sl, h⟩
def noW : WX := fun _ _ _ _ => False
theorem LINE_le : LINE ≤ sizeLine := by unfold LINE sizeLine; decide
end
end MP
end

section
set_option linter.all false
set_option autoImplicit false
set_option maxHeartbeats 1000000
set_option maxRecDepth 100000
namespace MP
open PySem L2 PyProof.Rows
section
variable {P : Prog} {Φ : Calls} {ca : String → Option Addr} {k : Nat} {X : Cx} {W : WX}

theorem compL_cons {step : D → List D → Store → R (List D)} {gs : List D} {x : D} {xs acc : List D} {st : Store} {ys : List D} {st2 : Store} (h : compL step gs (x :: xs) acc st = .ok ys st2) :
    guardOk st gs = true ∧ ∃ acc' st', step x acc st = .ok acc' st' ∧ compL step gs xs acc' st' = .ok ys st2 := by
  simp only [compL] at h
  split at h
  · rename_i hg
    cases q : step x acc st with
    | ok a st1 => rw [q, R.bd_ok] at h; exact ⟨hg, a, st1, rfl, h⟩
    | exn c' vs' st1 => rw [q] at h; cases h
    | stuck => rw [q] at h; cases h
  · cases h
theorem compL_nil {step : D → List D → Store → R (List D)} {gs : List D} {acc : List D} {st : Store} {ys : List D} {st2 : Store} (h : compL step gs [] acc st = .ok ys st2) : guardOk st gs = true ∧ ys = acc ∧ st2 = st := by
  simp only [compL] at h
  split at h
  · rename_i hg
    cases h
    exact ⟨hg, rfl, rfl⟩
  · cases h

theorem lc_read {m : Bool} {own : List Nat} {elt it : CE} {tg : Tg} {ifs : List CE} (hv : ∀ i, i ∈ tg.vars → i ∈ own) {σ : L2.St} {H : Hp} {Q : VK} (h : tV P Φ ca X.K W (.lc m own elt tg it ifs) σ H Q) :
    tLc (tI P Φ ca X.K W it) (tG ca X.K tg) (tTs P Φ ca X.K noW ifs) (tV P Φ ca X.K noW elt) own σ H Q := by
  obtain ⟨ex, ms, st, ρ, rs, sl, h⟩ := h
  simp only [evalM, fin_v] at h
  refine ⟨ex, ms, st, ρ, rs, sl, h.bd fun d st1 ms1 H1 J rs1 x1 r1 h1 => ?_⟩
  obtain ⟨xs, gs, rfl, jok⟩ := r1
  rw [show (packI (xs, gs)) = packI (xs, gs) from rfl] at h1
  rw [seqK_pack] at h1
  dsimp only at h1
  intro D hD
  generalize hstep : lcStep (fun ρ' st => evalIfs P Φ ρ' ifs st) (fun ρ' st => evalM P Φ ρ' .v elt st) tg (wipeE ρ own) = step at h1
  cases q : compL step gs xs [] st1 with
  | stuck => rw [q] at h1; exact h1.elim
  | exn c vs st' => exact absurd q (compL_noExn (by rw [← hstep]; exact lcStep_ne))
  | ok ys st2 =>
    rw [q, R.bd_ok] at h1
    obtain ⟨rsD, vD⟩ := RS.aside (X := X) (o := .lst []) rs1 hD
    have hDex : D ∉ ex := (rs1.fresh hD).2
    refine ⟨fun i mm H' => mm = xs.length - i ∧ i ≤ xs.length ∧ ∃ (ms' : List Addr) (st' : Store) (accV : List V) (accD : List MP.D), RS ca X.K (D :: ex) ms' st' H' ∧ Same (vw ex ms1 st1 H1) (vw (D :: ex) ms' st' H') ∧ ms1 <+: ms' ∧ H' D = some (.lst accV) ∧
      VRels ca X.K (vw (D :: ex) ms' st' H') ms' accV accD ∧ (∀ a ∈ ex, H' a = H1 a) ∧ compL step gs (xs.drop i) accD st' = .ok ys st2, ⟨xs.length, by simp, Nat.zero_le _, ms1, st1, [], [], rsD, by rw [vD]; exact Same.refl _, List.prefix_rfl, upd_same, .nil, fun a ha => upd_ne (fun z => hDex (by rw [← z]; exact ha)), by rw [List.drop_zero]; exact q⟩, ?_⟩
    rintro i mm H' ⟨rfl, hi, ms', st', accV, accD, rs', sm, pr, hDv, rv, hex, hq⟩
    cases hx : xs[i]? with
    | none =>
      have hge : xs.length ≤ i := List.getElem?_eq_none_iff.mp hx
      have hie : i = xs.length := by omega
      rw [hie, List.drop_length] at hq
      obtain ⟨hg, e1, e2⟩ := compL_nil hq
      subst e1
      subst e2
      have j := jok (D :: ex) ms' st2 H' i rs' sm pr hg hi
      rw [hx] at j
      refine .inl ⟨j, ?_⟩
      unfold mkLst at h1
      split at h1
      · cases m with
        | false =>
          obtain ⟨r1, r2⟩ := RS.fast rs' hDex hDv
          exact h1 ms' H' (.ref D) r1 ⟨pr, fun a o z => vw_drop a o (sm a o z), hex⟩ (.lst (.inl (.inl r2)) (rv.mono vw_drop List.prefix_rfl))
        | true =>
          obtain ⟨r1, r2⟩ := RS.adopt (c := .lst ys) rs' hDex hDv rfl ⟨accV, hDv, rv⟩
          have e : (ms' ++ [D])[st2.length]? = some D := by rw [← rs'.len]; simp
          exact h1 (ms' ++ [D]) H' (.ref D) r1 ⟨pr.trans (List.prefix_append _ _), fun a o z => r2 a o (sm a o z), hex⟩ (.own e)
      · exact h1.elim
    | some x =>
      have hlt : i < xs.length := (List.getElem?_eq_some_iff.mp hx).1
      rw [List.drop_eq_getElem_cons hlt] at hq
      have hxe : xs[i] = x := (List.getElem?_eq_some_iff.mp hx).2
      rw [hxe] at hq
      obtain ⟨hg, acc', st3, hs, hq⟩ := compL_cons hq
      have j := jok (D :: ex) ms' st' H' i rs' sm pr hg hi
      rw [hx] at j
      obtain ⟨go, yld⟩ := j
      refine .inr ⟨go, fun H'' => ∃ (ms'' : List Addr) (accV : List V), RS ca X.K (D :: ex) ms'' st3 H'' ∧ Same (vw ex ms1 st1 H1) (vw (D :: ex) ms'' st3 H'') ∧ ms1 <+: ms'' ∧ H'' D = some (.lst accV) ∧ VRels ca X.K (vw (D :: ex) ms'' st3 H'') ms'' accV acc' ∧ (∀ a ∈ ex, H'' a = H1 a), fun H'' ⟨ms'', accV', a1, a2, a3, a4, a5, a6⟩ => ⟨xs.length - (i + 1), by omega, rfl, hlt, ms'', st3, accV', acc', a1, a2, a3, a4, a5, a6, hq⟩, fun v H2 hy => ?_⟩
      obtain ⟨rs2, x2, r2⟩ := yld v H2 hy
      rw [← hstep] at hs
      obtain ⟨ρ', b, st4, hb, hif, hel⟩ := lcStep_ok hs
      have smA : Same (vw ex ms st H) (vw (D :: ex) ms' st' H2) := fun a o z => x2.same a o (sm a o (x1.same a o z))
      have prA : ms <+: ms' := x1.pre.trans pr
      refine ⟨D :: ex, ms', st', wipeE ρ own, ρ', x, rs2, (sl.mono smA prA).wipe own, r2, hb, fun σ2 sl2 l2 a2 => ⟨wipe_back l2 a2 hv, D :: ex, ms', st', ρ', rs2, sl2, ?_⟩⟩
      dsimp only
      rw [hif]
      intro ms4 H4 b' rs4 x4 e4
      have e4 : MP.D.bl b = MP.D.bl b' := e4
      cases e4
      have hD4 : H4 D = some (.lst accV) := (x4.exs D List.mem_cons_self).trans ((x2.exs D List.mem_cons_self).trans hDv)
      have sm4 : Same (vw ex ms1 st1 H1) (vw (D :: ex) ms4 st4 H4) := fun a o z => x4.same a o (x2.same a o (sm a o z))
      have hex4 : ∀ a ∈ ex, H4 a = H1 a := fun a ha => (x4.exs a (List.mem_cons_of_mem _ ha)).trans ((x2.exs a (List.mem_cons_of_mem _ ha)).trans (hex a ha))
      have rv4 := (rv.mono x2.same List.prefix_rfl).mono x4.same x4.pre
      cases b with
      | false =>
        simp only [Bool.false_eq_true, if_false] at hel ⊢
        obtain ⟨e1, e2⟩ := hel
        subst e1
        subst e2
        exact ⟨ms4, accV, rs4, sm4, pr.trans x4.pre, hD4, rv4, hex4⟩
      | true =>
        simp only [if_true] at hel ⊢
        obtain ⟨y, he, hl, e1⟩ := hel
        subst e1
        refine ⟨D :: ex, ms4, st4, ρ', rs4, sl2.mono x4.same x4.pre, ?_⟩
        dsimp only
        rw [he]
        intro ms5 H5 w rs5 x5 r5
        have hD5 : H5 D = some (.lst accV) := (x5.exs D List.mem_cons_self).trans hD4
        obtain ⟨rs6, v6⟩ := RS.asideW (X := X) (o := .lst (accV ++ [w])) rs5
        refine ⟨accV, hD5, ?_, ms5, accV ++ [w], rs6, ?_, (pr.trans x4.pre).trans x5.pre, upd_same, ?_, fun a ha => ?_⟩
        · rw [rv.length]; exact Nat.lt_of_lt_of_le hl LINE_le
        · rw [v6]; exact fun a o z => x5.same a o (sm4 a o z)
        · rw [v6]; exact (rv4.mono x5.same x5.pre).append (.one r5)
        · rw [upd_ne (fun z => hDex (by rw [← z]; exact ha))]
          exact (x5.exs a (List.mem_cons_of_mem _ ha)).trans (hex4 a ha)

/-- the block's context keeps what every body needs -/
theorem CtxOk.blk (C : CtxOk ca P k X W) {s : Shared} {H : Hp} {scope : Scope} {cenv : PySem.Env} {fp : List Addr} : CtxOk ca P k (X.blk s H scope cenv fp) noW where
  calm := C.calm
  nd := C.nd
  tk := fun u s' ⟨a, B, sI, pins, σ, H, cls, d, e, I, nb, up, sky, na, os, ag, w⟩ => w
  hp := PassesOwn.never
  room := C.room
  gd := C.gd
  gl := C.gl
theorem noSetFold {it : Expr} {env : PySem.Env} (h : match it with | .Set _ _ _ => False | _ => True) : ∀ x, foldedSetIterable it env x = pure x := by
  intro x
  cases it <;> first | rfl | exact h.elim
end
end MP
end

section
set_option linter.all false
set_option autoImplicit false
set_option maxHeartbeats 1000000
set_option maxRecDepth 100000
namespace MP
open PySem L2 PyProof.Rows

section
variable (P : Prog) (Φ : Calls) (ca : String → Option Addr) (K : PySem.W.Frag) (W : WX)
/-- what is wanted behind a statement that ends so -/
def postS (ex ms : List Addr) (st : Store) (H : Hp) (r : SR) (E : Ends) : Prop :=
  match r with
  | .nx ρ' st' => ∀ (ms' : List Addr) (H' : Hp) (σ' : L2.St), RS ca K ex ms' st' H' → Ext ex ms st H ms' st' H' → SlotRel ca K (vw ex ms' st' H') ms' σ' ρ' → E.nx σ' H'
  | .rt d st' => ∀ (ms' : List Addr) (H' : Hp) (v : V), RS ca K ex ms' st' H' → Ext ex ms st H ms' st' H' → VRel ca K (vw ex ms' st' H') ms' v d → E.rt v H'
  | .bk ρ' st' => ∀ (ms' : List Addr) (H' : Hp) (σ' : L2.St), RS ca K ex ms' st' H' → Ext ex ms st H ms' st' H' → SlotRel ca K (vw ex ms' st' H') ms' σ' ρ' → E.bk σ' H'
  | .ct ρ' st' => ∀ (ms' : List Addr) (H' : Hp) (σ' : L2.St), RS ca K ex ms' st' H' → Ext ex ms st H ms' st' H' → SlotRel ca K (vw ex ms' st' H') ms' σ' ρ' → E.ct σ' H'
  | .exn c vs ρ' st' => ∀ (ms' : List Addr) (H' : Hp) (σ' : L2.St) (cls : Value) (dd : Option Addr), RS ca K ex ms' st' H' → Ext ex ms st H ms' st' H' → SlotRel ca K (vw ex ms' st' H') ms' σ' ρ' → XRel ca K (vw ex ms' st' H') ms' cls dd c vs → W cls dd σ' H'
  | .stuck => False
def tS (c : CS) : TS := fun D σ H => G ca K σ H fun ex ms st ρ => postS ca K W ex ms st H (evalS P Φ c ρ st) D
def tSs (cs : List CS) : TS := fun D σ H => G ca K σ H fun ex ms st ρ => postS ca K W ex ms st H (evalSs P Φ cs ρ st) D
end

section
variable {P : Prog} {Φ : Calls} {ca : String → Option Addr} {k : Nat} {X : Cx} {W : WX}
variable {K : PySem.W.Frag} {ex ms ms1 : List Addr} {st st1 : Store} {H H1 : Hp} {D : Ends}
theorem postS.ext {r : SR} (x : Ext ex ms st H ms1 st1 H1) (h : postS ca K W ex ms st H r D) : postS ca K W ex ms1 st1 H1 r D := by
  cases r with
  | nx ρ st' => exact fun ms' H' b q1 q2 q3 => h ms' H' b q1 (x.trans q2) q3
  | rt ρ st' => exact fun ms' H' b q1 q2 q3 => h ms' H' b q1 (x.trans q2) q3
  | bk ρ st' => exact fun ms' H' b q1 q2 q3 => h ms' H' b q1 (x.trans q2) q3
  | ct ρ st' => exact fun ms' H' b q1 q2 q3 => h ms' H' b q1 (x.trans q2) q3
  | exn c vs ρ st' => exact fun ms' H' σ' cls dd q1 q2 q3 q4 => h ms' H' σ' cls dd q1 (x.trans q2) q3 q4
  | stuck => exact h
/-- an expression ahead -/
theorem postS.of {α β : Type} {rel : Hp → List Addr → β → α → Prop} {σ : L2.St} {ρ : MP.Env} {r : R α} {f : α → Store → SR} {Q1 : β → Hp → Prop} (sl : SlotRel ca K (vw ex ms st H) ms σ ρ) (h : postS ca K W ex ms st H (SR.of ρ r f) D)
    (k : ∀ (a : α) (st1 : Store) (ms1 : List Addr) (H1 : Hp) (b : β), r = .ok a st1 → RS ca K ex ms1 st1 H1 → Ext ex ms st H ms1 st1 H1 → rel (vw ex ms1 st1 H1) ms1 b a → SlotRel ca K (vw ex ms1 st1 H1) ms1 σ ρ → postS ca K W ex ms1 st1 H1 (f a st1) D → Q1 b H1) :
    post ca K rel ex ms st H r Q1 (WE' W σ) := by
  cases r with
  | ok a st' => exact fun ms' H' b q1 q2 q3 => k a st' ms' H' b rfl q1 q2 q3 (sl.mono q2.same q2.pre) (postS.ext q2 h)
  | exn c vs st' => exact fun ms' H' cls dd q1 q2 q3 => h ms' H' σ cls dd q1 q2 (sl.mono q2.same q2.pre) q3
  | stuck => exact h
theorem postS.then {r : SR} {f : MP.Env → Store → SR} {N : L2.St → Hp → Prop} (h : postS ca K W ex ms st H (r.then f) D)
    (k : ∀ (ρ1 : MP.Env) (st1 : Store) (ms1 : List Addr) (H1 : Hp) (σ1 : L2.St), RS ca K ex ms1 st1 H1 → Ext ex ms st H ms1 st1 H1 → SlotRel ca K (vw ex ms1 st1 H1) ms1 σ1 ρ1 → postS ca K W ex ms1 st1 H1 (f ρ1 st1) D → N σ1 H1) :
    postS ca K W ex ms st H r { D with nx := N } := by
  cases r with
  | nx ρ st' => exact fun ms' H' b q1 q2 q3 => k ρ st' ms' H' b q1 q2 q3 (postS.ext q2 h)
  | rt ρ st' => exact h
  | bk ρ st' => exact h
  | ct ρ st' => exact h
  | exn c vs ρ st' => exact h
  | stuck => exact h
theorem postS.loop {r : SR} {f : MP.Env → Store → SR} {N : L2.St → Hp → Prop} (h : postS ca K W ex ms st H (r.loop f) D)
    (k : ∀ (ρ1 : MP.Env) (st1 : Store) (ms1 : List Addr) (H1 : Hp) (σ1 : L2.St), RS ca K ex ms1 st1 H1 → Ext ex ms st H ms1 st1 H1 → SlotRel ca K (vw ex ms1 st1 H1) ms1 σ1 ρ1 → postS ca K W ex ms1 st1 H1 (f ρ1 st1) D → N σ1 H1) :
    postS ca K W ex ms st H r { D with nx := N, ct := N, bk := D.nx } := by
  cases r with
  | nx ρ st' => exact fun ms' H' b q1 q2 q3 => k ρ st' ms' H' b q1 q2 q3 (postS.ext q2 h)
  | rt ρ st' => exact h
  | bk ρ st' => exact h
  | ct ρ st' => exact fun ms' H' b q1 q2 q3 => k ρ st' ms' H' b q1 q2 q3 (postS.ext q2 h)
  | exn c vs ρ st' => exact h
  | stuck => exact h
theorem postS.here {ρ : MP.Env} {σ : L2.St} (h : postS ca K W ex ms st H (.nx ρ st) D) (r : RS ca K ex ms st H) (q : SlotRel ca K (vw ex ms st H) ms σ ρ) : D.nx σ H := h ms H σ r Ext.refl q
end

section
variable {P : Prog} {Φ : Calls} {ca : String → Option Addr} {k : Nat} {X : Cx} {W : WX} {pos : Pos}
theorem ss_nil : PSs X [] (tSs P Φ ca X.K W []) := pss_nil.imp fun D σ H => by
  rintro ⟨ex, ms, st, ρ, rs, sl, h⟩
  simp only [evalSs] at h
  exact h.here rs sl
theorem ss_cons {s : Stmt} {rest : List Stmt} {c : CS} {cs : List CS} (h1 : PS X s (tS P Φ ca X.K W c)) (h2 : PSs X rest (tSs P Φ ca X.K W cs)) : PSs X (s :: rest) (tSs P Φ ca X.K W (c :: cs)) := (pss_cons h1 h2).imp fun D σ H => by
  rintro ⟨ex, ms, st, ρ, rs, sl, h⟩
  simp only [evalSs] at h
  exact ⟨ex, ms, st, ρ, rs, sl, h.then fun ρ1 st1 ms1 H1 σ1 r1 x1 s1 h1 => ⟨ex, ms1, st1, ρ1, r1, s1, h1⟩⟩
/-- a statement of no weight ahead (a docstring) -/
theorem ss_skip {s : Stmt} {rest : List Stmt} {cs : List CS} (h1 : PS X s tNext) (h2 : PSs X rest (tSs P Φ ca X.K W cs)) : PSs X (s :: rest) (tSs P Φ ca X.K W cs) := (pss_cons h1 h2).imp fun D σ H h => h
theorem st_pass : PS X (.Pass pos) (tS P Φ ca X.K W .pass) := ps_pass.imp fun D σ H => by
  rintro ⟨ex, ms, st, ρ, rs, sl, h⟩
  simp only [evalS] at h
  exact h.here rs sl
theorem st_brk : PS X (.Break pos) (tS P Φ ca X.K W .brk) := ps_break.imp fun D σ H => by
  rintro ⟨ex, ms, st, ρ, rs, sl, h⟩
  simp only [evalS] at h
  exact h ms H σ rs Ext.refl sl
theorem st_cont : PS X (.Continue pos) (tS P Φ ca X.K W .cont) := ps_continue.imp fun D σ H => by
  rintro ⟨ex, ms, st, ρ, rs, sl, h⟩
  simp only [evalS] at h
  exact h ms H σ rs Ext.refl sl
theorem st_retN : PS X (.Return none pos) (tS P Φ ca X.K W .retN) := ps_retN.imp fun D σ H => by
  rintro ⟨ex, ms, st, ρ, rs, sl, h⟩
  simp only [evalS] at h
  exact h ms H .non rs Ext.refl .non
theorem st_ret {e : Expr} {c : CE} (he : PE X e (tV P Φ ca X.K W c)) : PS X (.Return (some e) pos) (tS P Φ ca X.K W (.ret c)) := (ps_ret he).imp fun D σ H => by
  rintro ⟨ex, ms, st, ρ, rs, sl, h⟩
  simp only [evalS] at h
  exact ⟨ex, ms, st, ρ, rs, sl, h.of sl fun d st1 ms1 H1 v eq r1 x1 v1 s1 h1 => h1 ms1 H1 v r1 Ext.refl v1⟩
def isComp : Expr → Bool
  | .ListComp _ _ _ _ => true
  | .SetComp _ _ _ _ => true
  | .DictComp _ _ _ _ _ => true
  | _ => false
theorem sw_plain {e : Expr} {t : Option Expr} {l : Nat} {env : PySem.Env} (h : isComp e = false) : swapsWith e t l env = pure false := by
  cases e <;> first | rfl | (simp [isComp] at h)
theorem st_expr {e : Expr} {c : CE} (he : PE X e (tV P Φ ca X.K W c)) (hn : isComp e = false) : PS X (.Expr e pos) (tS P Φ ca X.K W (.expr c)) := (ps_expr he (sw_plain hn)).imp fun D σ H => by
  rintro ⟨ex, ms, st, ρ, rs, sl, h⟩
  simp only [evalS] at h
  exact ⟨ex, ms, st, ρ, rs, sl, h.of sl fun d st1 ms1 H1 v eq r1 x1 v1 s1 h1 => h1.here r1 s1⟩
theorem st_if {t : Expr} {a b : List Stmt} {c : CE} {as bs : List CS} (ht : PT X t (tT P Φ ca X.K W c)) (ha : PSs X a (tSs P Φ ca X.K W as)) (hb : PSs X b (tSs P Φ ca X.K W bs)) : PS X (.If t a b pos) (tS P Φ ca X.K W (.ifS c as bs)) := (ps_if ht ha hb).imp fun D σ H => by
  rintro ⟨ex, ms, st, ρ, rs, sl, h⟩
  simp only [evalS] at h
  refine ⟨ex, ms, st, ρ, rs, sl, h.of sl fun d st1 ms1 H1 v eq r1 x1 v1 s1 h1 => ?_⟩
  have v1 : d = .bl v := v1
  subst v1
  cases v with
  | true => exact ⟨ex, ms1, st1, ρ, r1, s1, h1⟩
  | false => exact ⟨ex, ms1, st1, ρ, r1, s1, h1⟩

/-- the stores that an assignment makes, from the reading of a target -/
theorem set_read {te : TE} {c : CE} {tg : Tg} (ht : ∀ σ H Q, tV P Φ ca X.K W c σ H Q → te σ H Q) : ∀ D σ H, tS P Φ ca X.K W (.set tg c) D σ H → tAsg te (tG ca X.K tg) D σ H := by
  rintro D σ H ⟨ex, ms, st, ρ, rs, sl, h⟩
  simp only [evalS] at h
  refine ht _ _ _ ⟨ex, ms, st, ρ, rs, sl, h.of sl fun d st1 ms1 H1 v eq r1 x1 v1 s1 h1 => ?_⟩
  split at h1
  · rename_i ρ' e
    exact ⟨ex, ms1, st1, ρ, ρ', d, r1, s1, v1, e, fun σ' s' _ _ => h1.here r1 s'⟩
  · exact h1.elim
theorem name_read {te : TE} {i : Nat} {D : Ends} {σ : L2.St} {H : Hp} (hm : ∀ σ H Q Q', (∀ v H', Q v H' → Q' v H') → te σ H Q → te σ H Q') (h : tAsg te (tG ca X.K (.var i)) D σ H) : tAsg te (gName i) D σ H := by
  refine hm _ _ _ _ (fun v H' q => ?_) h
  obtain ⟨ex, ms, st, ρ, ρ', d, rs, sl, r, e, h⟩ := q
  simp only [bindT] at e
  split at e
  · cases e
    exact h _ (sl.set r) List.length_set fun j hj => List.getElem?_set_ne (fun z => hj (by simp [Tg.vars, z]))
  · cases e
theorem st_set {i : Nat} {x : Str} {e : Expr} {c : CE} {pos' : Pos} (hN : X.N.Nodup) (hi : X.N[i]? = some x) (hx : Loc X.env.scope x) (he : PE X e (tV P Φ ca X.K W c)) (hs : swapsWith e (some (.Name x pos')) pos.line X.env = pure false) (hf : X.fn x = true ∨ X.env.scope.names.lookup x = some .local) :
    PS X (.Assign [.Name x pos'] e pos) (tS P Φ ca X.K W (.set (.var i) c)) := (ps_set hN hi hx he hs hf).imp fun D σ H => by
  rintro ⟨ex, ms, st, ρ, rs, sl, h⟩
  simp only [evalS] at h
  refine ⟨ex, ms, st, ρ, rs, sl, h.of sl fun d st1 ms1 H1 v eq r1 x1 v1 s1 h1 => ?_⟩
  simp only [bindT] at h1
  split at h1
  · rename_i ρ' e
    split at e
    · cases e
      exact h1.here r1 (s1.set v1)
    · cases e
  · exact h1.elim
theorem st_setLc {i : Nat} {y : Str} {py : Pos} {elt tg iter : Expr} {ifs : List Expr} {scope : Scope} {own : List (Str × Nat)} {pos spos : Pos} {m : Bool} {ce ci : CE} {ct : Tg} {cf : List CE} (hc : X.calm = true) (hN : X.N.Nodup) (hy : X.N[i]? = some y) (hyl : X.env.scope.names.lookup y = some .local)
    (hsw : swapsWith (.ListComp elt [⟨tg, iter, ifs, 0⟩] scope pos) (some (.Name y py)) spos.line X.env = pure true) (hi : PI X tg iter (tI P Φ ca X.K W ci)) (ok : BlkOk X.N X.env.scope scope own) (hv : ∀ i, i ∈ ct.vars → i ∈ own.map (·.2))
    (hg : ∀ (s : Shared) (H : Hp) (C : Addr) (cl : List (Str × Addr)) (fp : List Addr), PG (X.blk s H scope (compEnvC scope cl C X.env) fp) tg (tG ca X.K ct)) (ht : ∀ (s : Shared) (H : Hp) (C : Addr) (cl : List (Str × Addr)) (fp : List Addr), PTs (X.blk s H scope (compEnvC scope cl C X.env) fp) ifs (tTs P Φ ca X.K noW cf))
    (he : ∀ (s : Shared) (H : Hp) (C : Addr) (cl : List (Str × Addr)) (fp : List Addr), PE (X.blk s H scope (compEnvC scope cl C X.env) fp) elt (tV P Φ ca X.K noW ce)) (hs : ∀ x, foldedSetIterable iter X.env x = pure x) :
    PS X (.Assign [.Name y py] (.ListComp elt [⟨tg, iter, ifs, 0⟩] scope pos) spos) (tS P Φ ca X.K W (.set (.var i) (.lc m (own.map (·.2)) ce ct ci cf))) :=
  (ps_setLc hc hN hy hyl hsw hi ok hg ht he hs).imp fun D σ H h => by
    obtain ⟨ex, ms, st, ρ, rs, sl, h⟩ := h
    simp only [evalS] at h
    refine lc_read hv ⟨ex, ms, st, ρ, rs, sl, h.of sl fun d st1 ms1 H1 v eq r1 x1 v1 s1 h1 => ?_⟩
    simp only [bindT] at h1
    split at h1
    · rename_i ρ' e
      split at e
      · cases e
        exact h1.here r1 (s1.set v1)
      · cases e
    · exact h1.elim
theorem s_lc {elt tg iter : Expr} {ifs : List Expr} {scope : Scope} {own : List (Str × Nat)} {pos : Pos} {m : Bool} {ce ci : CE} {ct : Tg} {cf : List CE} (hc : X.calm = true) (hN : X.N.Nodup) (hi : PI X tg iter (tI P Φ ca X.K W ci)) (ok : BlkOk X.N X.env.scope scope own) (hv : ∀ i, i ∈ ct.vars → i ∈ own.map (·.2))
    (hg : ∀ (s : Shared) (H : Hp) (C : Addr) (cl : List (Str × Addr)) (fp : List Addr), PG (X.blk s H scope (compEnvC scope cl C X.env) fp) tg (tG ca X.K ct)) (ht : ∀ (s : Shared) (H : Hp) (C : Addr) (cl : List (Str × Addr)) (fp : List Addr), PTs (X.blk s H scope (compEnvC scope cl C X.env) fp) ifs (tTs P Φ ca X.K noW cf))
    (he : ∀ (s : Shared) (H : Hp) (C : Addr) (cl : List (Str × Addr)) (fp : List Addr), PE (X.blk s H scope (compEnvC scope cl C X.env) fp) elt (tV P Φ ca X.K noW ce)) (hs : ∀ x, foldedSetIterable iter X.env x = pure x) :
    PE X (.ListComp elt [⟨tg, iter, ifs, 0⟩] scope pos) (tV P Φ ca X.K W (.lc m (own.map (·.2)) ce ct ci cf)) := (pe_lc hc hN hi ok hg ht he hs).imp fun σ H Q h => lc_read hv h
/-- a, b = a value that is no display -/
theorem st_unp {tg e : Expr} {c : CE} {t : Tg} (he : PE X e (tV P Φ ca X.K W c)) (hg : PG X tg (tG ca X.K t)) (hs : swapsWithSole [tg] e pos.line X.env = pure false) (hw : swappedStores [tg] e X.env = pure none) (hn : noStar tg = true) :
    PS X (.Assign [tg] e pos) (tS P Φ ca X.K W (.set t c)) := (ps_asg he hg hs hw (by rw [assign_each hn]; rfl)).imp (set_read fun _ _ _ h => h)
theorem st_par2 {i j : Nat} {x y : Str} {a b : Expr} {cs : List CE} {px py pt : Pos} {kt k2 pt2} (hc : X.calm = true) (hN : X.N.Nodup) (hi : X.N[i]? = some x) (hj : X.N[j]? = some y) (hij : i ≠ j)
    (hx : X.env.scope.names.lookup x = some .local) (hy : X.env.scope.names.lookup y = some .local) (ha : PA X [a, b] (tAs P Φ ca X.K W cs))
    (hw : swappedStores [.Tuple [.Name x px, .Name y py] kt pt] (.Tuple [a, b] k2 pt2) X.env = pure (some [x, y])) :
    PS X (.Assign [.Tuple [.Name x px, .Name y py] kt pt] (.Tuple [a, b] k2 pt2) pos) (tS P Φ ca X.K W (.par [i, j] cs)) := (ps_par hc hN hi hj hij hx hy ha hw rfl).imp fun D σ H h => by
  obtain ⟨ex, ms, st, ρ, rs, sl, h⟩ := h
  simp only [evalS] at h
  refine ⟨ex, ms, st, ρ, rs, sl, h.of sl fun ds st1 ms1 H1 vs eq r1 x1 v1 s1 h1 => ?_⟩
  split at h1
  · rename_i ρ' e
    match ds, v1 with
    | [], _ => simp [setMany] at e
    | [_], _ => simp [setMany] at e
    | [d1, d2], .cons (v := v) rr (.cons (v := w) rr2 .nil) =>
      simp only [setMany] at e
      split at e
      · split at e
        · cases e
          exact ⟨v, w, rfl, h1.here r1 ((s1.set rr).set rr2)⟩
        · cases e
      · cases e
    | _ :: _ :: _ :: _, _ =>
      simp only [setMany] at e
      split at e
      · split at e
        · cases e
        · cases e
      · cases e
  · exact h1.elim
theorem st_aug {i : Nat} {x : Str} {e : Expr} {c : CE} {op : Operator} {o : Op2} {pos' : Pos} (ho : (op = .Add ∧ o = .add) ∨ (op = .Sub ∧ o = .sub)) (hN : X.N.Nodup) (hi : X.N[i]? = some x) (hx : Loc X.env.scope x) (he : PE X e (tV P Φ ca X.K W c)) (hf : X.fn x = true ∨ X.env.scope.names.lookup x = some .local) :
    PS X (.AugAssign (.Name x pos') op e pos) (tS P Φ ca X.K W (.augVar i o c)) := by
  rcases ho with ⟨rfl, rfl⟩ | ⟨rfl, rfl⟩
  · refine (ps_aug hN hi hx he ip_add hf).imp fun D σ H h => ?_
    obtain ⟨ex, ms, st, ρ, rs, sl, h⟩ := h
    simp only [evalS] at h
    split at h
    · rename_i d e
      obtain ⟨v, e1, r1⟩ := sl.2 i d e
      refine ⟨v, e1, ex, ms, st, ρ, rs, sl, h.of sl fun d2 st1 ms1 H1 w eq rs1 x1 v1 s1 h1 => ?_⟩
      split at h1
      · rename_i z e2
        unfold augF at e2
        split at e2
        · cases vr_int r1; cases vr_int v1
          cases e2
          split at h1
          · exact ⟨_, _, rfl, rfl, h1.here rs1 (s1.set (.int _))⟩
          · exact h1.elim
        · rename_i z; cases z
        · cases e2
      · exact h1.elim
    · exact h.elim
  · refine (ps_aug hN hi hx he ip_sub hf).imp fun D σ H h => ?_
    obtain ⟨ex, ms, st, ρ, rs, sl, h⟩ := h
    simp only [evalS] at h
    split at h
    · rename_i d e
      obtain ⟨v, e1, r1⟩ := sl.2 i d e
      refine ⟨v, e1, ex, ms, st, ρ, rs, sl, h.of sl fun d2 st1 ms1 H1 w eq rs1 x1 v1 s1 h1 => ?_⟩
      split at h1
      · rename_i z e2
        unfold augF at e2
        split at e2
        · rename_i z; cases z
        · cases vr_int r1; cases vr_int v1
          cases e2
          split at h1
          · exact ⟨_, _, rfl, rfl, h1.here rs1 (s1.set (.int _))⟩
          · exact h1.elim
        · cases e2
      · exact h1.elim
    · exact h.elim
end
end MP
end

section
set_option linter.all false
set_option autoImplicit false
set_option maxHeartbeats 1000000
set_option maxRecDepth 100000
namespace MP
open PySem L2 PyProof.Rows

section
variable {P : Prog} {Φ : Calls} {ca : String → Option Addr} {k : Nat} {X : Cx} {W : WX} {pos : Pos}
theorem _root_.L2.PSet.or {X : Cx} {t t' : TSet} (h : PSet X t) (h' : PSet X t') : PSet X (fun o i v H Q => t o i v H Q ∨ t' o i v H Q) :=
  fun pins s σ H o i v ov iv u Q I r1 r2 r3 q => q.elim (h pins s σ H o i v ov iv u Q I r1 r2 r3) (h' pins s σ H o i v ov iv u Q I r1 r2 r3)
theorem store_item {ex ms : List Addr} {st st' : Store} {H : Hp} {o i v : V} {x y d : D} {Q : Hp → Prop} (rs : RS ca X.K ex ms st H) (ro : VRel ca X.K (vw ex ms st H) ms o x) (ri : VRel ca X.K (vw ex ms st H) ms i y) (rv : VRel ca X.K (vw ex ms st H) ms v d) (e : storeItem x y d st = some st')
    (h : ∀ H', RS ca X.K ex ms st' H' → Ext ex ms st H ms st' H' → Q H') : rSetL o i v H Q ∨ rSetD o i v H Q := by
  unfold storeItem at e
  split at e
  · rename_i n
    cases ro with
    | @own n a hq =>
      split at e
      · rename_i xs e2
        split at e
        · rename_i kk
          cases vr_int ri
          simp only [Option.map_eq_some_iff] at e
          obtain ⟨j, e3, rfl⟩ := e
          obtain ⟨vs, q1, q2⟩ := rs.cells _ _ _ hq e2
          have e4 : L2.ixN vs.length kk = some j := by rw [q2.length]; exact e3
          obtain ⟨r1, r2⟩ := rs.write (o := .lst (vs.set j v)) (d := .lst (xs.set j d)) hq e2 rfl rfl ⟨_, upd_same, q2.set rv j⟩
          exact .inl ⟨a, vs, _, j, rfl, rfl, q1, e4, h _ r1 r2⟩
        · cases e
      · rename_i kvs e2
        simp only [Option.bind_eq_some_iff] at e
        obtain ⟨key, e3, e4⟩ := e
        split at e4
        · rename_i hl
          cases e4
          cases key_rel ri e3
          obtain ⟨kv, q1, q2⟩ := rs.cells _ _ _ hq e2
          obtain ⟨r1, r2⟩ := rs.write (o := .dK (putK kv key v)) (d := .dct (putD kvs key d)) hq e2 rfl rfl ⟨_, upd_same, kv_put key rv q2⟩
          have hl2 : kv.length = kvs.length := by
            clear r1 r2 q1 e2 hl h
            induction q2 with
            | nil => rfl
            | cons _ _ ih => simp [ih]
          exact .inr ⟨a, _, rfl, DPut.k q1 (by rw [hl2]; exact Nat.lt_of_lt_of_le hl LINE_le), h _ r1 r2⟩
        · cases e4
      · cases e
  · cases e
theorem sw_sub {e o i : Expr} {p : Pos} {l : Nat} {env : PySem.Env} : swapsWith e (some (.Subscript o i p)) l env = pure false := by
  unfold swapsWith
  cases e <;> rfl
theorem sw_att {e o : Expr} {f : Str} {p : Pos} {l : Nat} {env : PySem.Env} : swapsWith e (some (.Attribute o f p)) l env = pure false := by
  unfold swapsWith
  cases e <;> rfl
theorem stores_sub {e o i : Expr} {p : Pos} {env : PySem.Env} : swappedStores [.Subscript o i p] e env = pure none := by
  unfold swappedStores
  cases e <;> rfl
theorem assign_subscript {o i : Expr} {p : Pos} {env : PySem.Env} (v : Value) : assign (.Subscript o i p) env v = (do
      let ov ← holding [v] (eval o env)
      let iv ← holding [v, ov] (eval i env)
      standAt p
      holding [v, ov, iv] (setItem ov iv v)
      release (match i with | .Slice _ _ none _ => [iv, v, ov] | _ => [v, ov, iv]) []) := rfl
theorem st_setItem (C : CtxOk ca P k X W) {o i e : Expr} {co ci ce : CE} {p : Pos} (ho : PE X o (tV P Φ ca X.K W co)) (hi : PE X i (tV P Φ ca X.K W ci)) (he : PE X e (tV P Φ ca X.K W ce)) (hns : noSlice i = true) :
    PS X (.Assign [.Subscript o i p] e pos) (tS P Φ ca X.K W (.setItem co ci ce)) := by
  have hset := PSet.or (X := X) set_list (set_dict (X := X) (by have := C.rm.un; omega))
  refine (ps_asg he (pg_sub ho hi hset (fun v => by rw [assign_subscript]; cases i <;> first | rfl | (simp [noSlice] at hns))) (show swapsWith e (some (.Subscript o i p)) pos.line X.env = pure false from sw_sub) (by exact stores_sub) rfl).imp fun D σ H h => ?_
  obtain ⟨ex, ms, st, ρ, rs, sl, h⟩ := h
  simp only [evalS] at h
  refine ⟨ex, ms, st, ρ, rs, sl, h.of sl fun d st1 ms1 H1 v eq r1 x1 v1 s1 h1 => ⟨ex, ms1, st1, ρ, r1, s1, h1.of s1 fun x st2 ms2 H2 ov eq2 r2 x2 v2 s2 h2 => ⟨ex, ms2, st2, ρ, r2, s2, h2.of s2 fun y st3 ms3 H3 iv eq3 r3 x3 v3 s3 h3 => ?_⟩⟩⟩
  split at h3
  · rename_i st4 e4
    exact store_item r3 (v2.mono x3.same x3.pre) v3 ((v1.mono x2.same x2.pre).mono x3.same x3.pre) e4 fun H' r4 x4 => h3 ms3 H' σ r4 x4 (s3.mono x4.same x4.pre)
  · exact h3.elim

theorem putF_names {f : String} {v : V} {d : D} : ∀ {vs : List (Str × V)} {fs : List (String × D)}, vs.map (·.1) = fs.map (fun p => nmS p.1) → (putF (nmS f) v vs).map (·.1) = (putFld f d fs).map (fun p => nmS p.1)
  | [], [], _ => rfl
  | [], _ :: _, h => by simp at h
  | _ :: _, [], h => by simp at h
  | (g, x) :: vs, (g', x') :: fs, h => by
    simp only [List.map_cons, List.cons.injEq] at h
    unfold putF putFld
    by_cases hg : g = nmS f
    · have : g' = f := nmS_inj (h.1.symm.trans hg)
      rw [if_pos hg, if_pos (by simp [this])]
      simp only [List.map_cons, List.cons.injEq]
      exact ⟨h.1, h.2⟩
    · have : ¬ (g' == f) = true := by
        intro z
        rw [beq_iff_eq] at z
        exact hg (by rw [h.1, z])
      rw [if_neg hg, if_neg this]
      simp only [List.map_cons, List.cons.injEq]
      exact ⟨h.1, putF_names h.2⟩
theorem putF_rels {K : PySem.W.Frag} {F : Hp} {ms : List Addr} {f : String} {v : V} {d : D} (r : VRel ca K F ms v d) : ∀ {vs : List (Str × V)} {fs : List (String × D)}, vs.map (·.1) = fs.map (fun p => nmS p.1) → VRels ca K F ms (vs.map (·.2)) (fs.map (·.2)) → VRels ca K F ms ((putF (nmS f) v vs).map (·.2)) ((putFld f d fs).map (·.2))
  | [], [], _, _ => .one r
  | [], _ :: _, h, _ => by simp at h
  | _ :: _, [], h, _ => by simp at h
  | (g, x) :: vs, (g', x') :: fs, h, q => by
    simp only [List.map_cons, List.cons.injEq] at h
    cases q with
    | cons q1 q2 =>
      unfold putF putFld
      by_cases hg : g = nmS f
      · have : g' = f := nmS_inj (h.1.symm.trans hg)
        rw [if_pos hg, if_pos (by simp [this])]
        exact .cons r q2
      · have : ¬ (g' == f) = true := by
          intro z
          rw [beq_iff_eq] at z
          exact hg (by rw [h.1, z])
        rw [if_neg hg, if_neg this]
        exact .cons q1 (putF_rels r h.2 q2)
theorem st_setAttr (G : GOk ca P X.prog X.w X.K X.mg X.base Φ k) {o e : Expr} {co ce : CE} {f : String} {p : Pos} (ho : PE X o (tV P Φ ca X.K W co)) (he : PE X e (tV P Φ ca X.K W ce)) :
    PS X (.Assign [.Attribute o (nmS f) p] e pos) (tS P Φ ca X.K W (.setAttr co f ce)) := by
  refine (ps_fld ho he (by exact sw_att)).imp fun D σ H h => ?_
  obtain ⟨ex, ms, st, ρ, rs, sl, h⟩ := h
  simp only [evalS] at h
  refine ⟨ex, ms, st, ρ, rs, sl, h.of sl fun d st1 ms1 H1 v eq r1 x1 v1 s1 h1 => ⟨ex, ms1, st1, ρ, r1, s1, h1.of s1 fun x st2 ms2 H2 ov eq2 r2 x2 v2 s2 h2 => ?_⟩⟩
  split at h2
  · rename_i st4 e4
    unfold storeAttr at e4
    split at e4
    · rename_i n
      cases v2 with
      | @own n a hq =>
        split at e4
        · rename_i c fs e5
          split at e4
          · rename_i kc e6
            split at e4
            · rename_i hl
              cases e4
              rw [Bool.and_eq_true, decide_eq_true_eq] at hl
              obtain ⟨Cc, dx, vs, hc, q1, q2, q3⟩ := r2.cells _ _ _ hq e5
              obtain ⟨C', hc', _, hcls, _, _, _, hno⟩ := G.cls c kc e6
              rw [hc] at hc'
              cases hc'
              have hl2 : vs.length = fs.length := by
                have := congrArg List.length q2
                simpa using this
              obtain ⟨r3, x3⟩ := r2.write (o := .ins Cc dx (putF (nmS f) v vs)) (d := .ins c (putFld f d fs)) hq e5 rfl rfl ⟨Cc, dx, _, hc, upd_same, putF_names q2, putF_rels (v1.mono x2.same x2.pre) q2 q3⟩
              exact ⟨a, Cc, dx, vs, rfl, q1, hcls, hno f hl.2, by rw [hl2]; omega, h2 ms2 _ σ r3 x3 (s2.mono x3.same x3.pre)⟩
            · cases e4
          · cases e4
        · cases e4
    · cases e4
  · exact h2.elim

theorem st_for {tg it : Expr} {body : List Stmt} {ct : Tg} {ci : CE} {cb : List CS} (hp : PassesOwn (model X.prog X.w) X.A X.env X.xe) (hc : X.calm = true) (hi : PI X tg it (tI P Φ ca X.K W ci)) (hg : PG X tg (tG ca X.K ct)) (hb : PSs X body (tSs P Φ ca X.K W cb))
    (hs : ∀ x, foldedSetIterable it X.env x = pure x) : PS X (.For tg it body [] pos) (tS P Φ ca X.K W (.forS ct ci cb)) := (ps_for hp hc hi hg hb hs).imp fun D σ H h => by
  obtain ⟨ex, ms, st, ρ, rs, sl, h⟩ := h
  simp only [evalS] at h
  generalize hst : (fun x (ρ : MP.Env) st => match bindT st ct x ρ with
      | some ρ' => evalSs P Φ cb ρ' st
      | none => SR.stuck) = step at h
  refine ⟨ex, ms, st, ρ, rs, sl, h.of sl fun d st1 ms1 H1 J eq r1 x1 rJ s1 h1 => ?_⟩
  obtain ⟨xs, gs, rfl, jok⟩ := rJ
  rw [itK_pack] at h1
  dsimp only at h1
  refine ⟨fun i m σ' H' => m = xs.length - i ∧ i ≤ xs.length ∧ ∃ (ms' : List Addr) (st' : Store) (ρ' : MP.Env), RS ca X.K ex ms' st' H' ∧ Ext ex ms1 st1 H1 ms' st' H' ∧ SlotRel ca X.K (vw ex ms' st' H') ms' σ' ρ' ∧ postS ca X.K W ex ms' st' H' (forL step gs (xs.drop i) ρ' st') D,
    ⟨xs.length, rfl, Nat.zero_le _, ms1, st1, ρ, r1, Ext.refl, s1, by rw [List.drop_zero]; exact h1⟩, ?_⟩
  rintro i m σ' H' ⟨rfl, hi, ms', st', ρ', rs', x', sl', h'⟩
  cases hx : xs[i]? with
  | none =>
    have hge : xs.length ≤ i := List.getElem?_eq_none_iff.mp hx
    have hie : i = xs.length := by omega
    rw [hie, List.drop_length] at h'
    simp only [forL] at h'
    split at h'
    · rename_i hg
      have j := jok ex ms' st' H' i rs' x'.same x'.pre hg hi
      rw [hx] at j
      exact .inl ⟨j, h'.here rs' sl'⟩
    · exact h'.elim
  | some x =>
    have hlt : i < xs.length := (List.getElem?_eq_some_iff.mp hx).1
    rw [List.drop_eq_getElem_cons hlt] at h'
    have hxe : xs[i] = x := (List.getElem?_eq_some_iff.mp hx).2
    rw [hxe] at h'
    simp only [forL] at h'
    split at h'
    · rename_i hg
      have j := jok ex ms' st' H' i rs' x'.same x'.pre hg hi
      rw [hx] at j
      obtain ⟨go, yld⟩ := j
      refine .inr ⟨go, fun σ2 H2 => ∃ (ms2 : List Addr) (st2 : Store) (ρ2 : MP.Env), RS ca X.K ex ms2 st2 H2 ∧ Ext ex ms1 st1 H1 ms2 st2 H2 ∧ SlotRel ca X.K (vw ex ms2 st2 H2) ms2 σ2 ρ2 ∧ postS ca X.K W ex ms2 st2 H2 (forL step gs (xs.drop (i + 1)) ρ2 st2) D,
        fun σ2 H2 ⟨ms2, st2, ρ2, a1, a2, a3, a4⟩ => ⟨xs.length - (i + 1), by omega, rfl, hlt, ms2, st2, ρ2, a1, a2, a3, a4⟩, fun v H2 hy => ?_⟩
      obtain ⟨rs2, x2, r2⟩ := yld v H2 hy
      have h2 := postS.ext x2 h'
      rw [← hst] at h2
      dsimp only at h2
      cases hb : bindT st' ct x ρ' with
      | none => rw [hb] at h2; exact h2.elim
      | some ρ2 =>
        rw [hb] at h2
        rw [hst] at h2
        exact ⟨ex, ms', st', ρ', ρ2, x, rs2, sl'.mono x2.same x2.pre, r2, hb, fun σ2 sl2 _ _ => ⟨ex, ms', st', ρ2, rs2, sl2, h2.loop fun ρ3 st3 ms3 H3 σ3 r3 x3 s3 h3 => ⟨ms3, st3, ρ3, r3, (x'.trans x2).trans x3, s3, h3⟩⟩⟩
    · exact h'.elim
theorem st_while {t : Expr} {body : List Stmt} {c : CE} {cb : List CS} (hp : PassesOwn (model X.prog X.w) X.A X.env X.xe) (ht : PT X t (tT P Φ ca X.K W c)) (hb : PSs X body (tSs P Φ ca X.K W cb)) : PS X (.While t body [] pos) (tS P Φ ca X.K W (.whileS c cb)) := (ps_while hp ht hb).imp fun D σ H h => by
  obtain ⟨ex, ms, st, ρ, rs, sl, h⟩ := h
  simp only [evalS] at h
  refine ⟨fun n σ' H' => ∃ (ms' : List Addr) (st' : Store) (ρ' : MP.Env), RS ca X.K ex ms' st' H' ∧ SlotRel ca X.K (vw ex ms' st' H') ms' σ' ρ' ∧ postS ca X.K W ex ms' st' H' (whileL (fun ρ st => evalM P Φ ρ .t c st) (fun ρ st => evalSs P Φ cb ρ st) n ρ' st') D, ⟨P.lim, ms, st, ρ, rs, sl, h⟩, ?_⟩
  rintro n σ' H' ⟨ms', st', ρ', rs', sl', h'⟩
  cases n with
  | zero => exact h'.elim
  | succ n =>
    simp only [whileL] at h'
    refine ⟨ex, ms', st', ρ', rs', sl', h'.of sl' fun d st1 ms1 H1 b eq r1 x1 rb s1 h1 => ?_⟩
    have rb : d = .bl b := rb
    subst rb
    cases b with
    | true =>
      exact ⟨fun σ2 H2 => ∃ (ms' : List Addr) (st' : Store) (ρ' : MP.Env), RS ca X.K ex ms' st' H2 ∧ SlotRel ca X.K (vw ex ms' st' H2) ms' σ2 ρ' ∧ postS ca X.K W ex ms' st' H2 (whileL (fun ρ st => evalM P Φ ρ .t c st) (fun ρ st => evalSs P Φ cb ρ st) n ρ' st') D,
        fun σ2 H2 q => ⟨n, Nat.lt_succ_self _, q⟩, ex, ms1, st1, ρ', r1, s1, h1.loop fun ρ3 st3 ms3 H3 σ3 r3 x3 s3 h3 => ⟨ms3, st3, ρ3, r3, s3, h3⟩⟩
    | false => exact h1.here r1 s1
end
end MP
end

section
set_option linter.all false
set_option autoImplicit false
set_option maxHeartbeats 2000000
set_option maxRecDepth 100000
namespace PySem.W
open PySem PySem.Spec PyProof.Rows
section
variable {prog : Program} {w : World} {A : Around} {E : Value → Shared → Prop} {s : Shared} {K : Frag} {h₀ : Heap} {x C L f : Addr} {b tb : Value} {m : Str → Option Value} {ox : Obj} {od : Option Obj}
/-- != by the default of object, over an own == -/
theorem mp_ne {Q : Value → Shared → Prop} (hu : A.in1.units < cLine) (hu0 : A.units < cLine) (F : Fr h₀ L s.heap m) (X₀ : K.In h₀) (I : InstAt s.heap x ox C od) (hb : Looks (model prog w) s.heap (typeOf b) tb) (hn : notFirst K C tb = true)
    (hne : findIn K (.ref C) "__ne__" = some (some (.builtin "object.__ne__"))) (hm : mroIn K C (.type "object") = some true) (hs : findIn K (.ref C) "__eq__" = some (some (.ref f))) (hf : isFn K (.ref f) = true)
    (h : wpAny (model prog w) A.in1 (call (.ref f) [.ref x, b]) (fun v s' => ∃ k, v = .bool k ∧ Q (.bool (!k)) s') E s) : wpAny (model prog w) A (richCompare .NotEq (.ref x) b) Q E s := by
  have X := X₀.keeps F.keep
  have slot := PySem.F.cmp_object.ne
  have body : wpAny (model prog w) A (call (.builtin "object.__ne__") [.ref x, b]) (fun v s' => ∃ k, v = .bool k ∧ Q v s') E s := by
    refine wpAny_call (codeAny_call_builtin slot.plain PySem.F.cmpEntry_ne (check_slot (i := "object.__ne__") (owner := "object") (n := "__ne__") (by decide +kernel) (by decide +kernel) (I.type.andThen (looks_mroIn X hm)) (PySem.F.cmpArgs_ne _ _) ?_))
    unfold Builtin.«object.__ne__»
    refine wpAny_bind (m := slotArgs "__ne__" 1 _) (wpAny_pure ?_)
    refine wpAny_bind (m := cRoomFor _ _) (wpAny_cRoomFor hu ?_)
    refine wpAny_bind (m := callSpecialIfBound? (.ref x) (Str.ofString "__eq__") _) (ifBound_K X I hs hf (wpAny_mono h (fun r s' hq => ?_) fun _ _ y => y))
    obtain ⟨k, rfl, hq⟩ := hq
    exact wpAny_bind (m := truthy (.bool k)) (wpAny_truthy_bool (wpAny_pure ⟨_, rfl, hq⟩))
  have one : wpAny (model prog w) A (tryCompare (.ref x) (cmpInfo .NotEq).2.1 b) (fun r s' => ∃ v, r = some v ∧ Q v s') E s := by
    unfold tryCompare
    refine wpAny_bind (m := callSpecialIfBound? (.ref x) (Str.ofString "__ne__") [b]) ?_
    simp only [callSpecialIfBound?, bindSpecialIfBound?]
    refine wpAny_holding (wpAny_bind (wpAny_bind (wpAny_bind (I.type.here ((looks_findIn X hne).here ?_)))))
    have fin : ∀ {R : Option Value → Shared → Prop}, (∀ k s', Q (.bool k) s' → R (some (.bool k)) s') → wpAny (model prog w) A (call (.builtin "object.__ne__") ([.ref x] ++ [b]) >>= fun v => pure (some v)) R E s := fun {R} hR =>
      wpAny_bind (wpAny_mono body (fun v s' z => by obtain ⟨k, rfl, hq⟩ := z; exact wpAny_pure (hR k s' hq)) fun _ _ z => z)
    refine wpAny_bind (wpAny_askSetting (wpAny_ite ?_))
    split
    · exact wpAny_bind ((Looks.of_pure (slot.bind _)).here (wpAny_pure (by exact fin fun k s' hq => wpAny_pure ⟨_, rfl, hq⟩)))
    · exact wpAny_tryCatch (wpAny_bind ((Looks.of_pure (slot.bind _)).here (wpAny_pure (by exact fin fun k s' hq => wpAny_pure ⟨_, rfl, hq⟩))))
  unfold richCompare
  simp only [oneThing_ref]
  refine wpAny_holding (wpAny_bind (wpAny_cRoomFor hu0 ?_))
  refine wpAny_bind (I.type.here (wpAny_bind (hb.here ?_)))
  split
  · rename_i q
    have e : subIn K tb (.ref C) = some false := by
      rcases Bool.or_eq_true_iff.mp hn with e | e
      · rw [beq_iff_eq.mp e] at q; simp at q
      · exact beq_iff_eq.mp e
    refine wpAny_bind ((looks_subIn X e).here ?_)
    simp only [Bool.false_eq_true, if_false]
    refine wpAny_bind (wpAny_mono one (fun r s' z => ?_) fun _ _ e => e)
    obtain ⟨v, rfl, hq⟩ := z
    exact wpAny_pure hq
  · refine wpAny_bind (wpAny_pure ?_)
    simp only [Bool.false_eq_true, if_false]
    refine wpAny_bind (wpAny_mono one (fun r s' z => ?_) fun _ _ e => e)
    obtain ⟨v, rfl, hq⟩ := z
    exact wpAny_pure hq
end
end PySem.W

namespace MP
open PySem L2 PyProof.Rows
section
variable {P : Prog} {Φ : Calls} {ca : String → Option Addr} {k : Nat} {X : Cx} {W : WX}
/-- the callee runs, and no exception comes -/
theorem run_quiet {f : String} {fa : Addr} (F : FnAt P ca X.prog X.w X.K X.mg X.base Φ k f fa) {A : Around} (hg : A.guards = some []) (hr : Room k A) {pins : List (Addr × Obj)} {σ : L2.St} {H : Hp} {s : Shared} (he : Env0 X.prog X.w X.K X.mg X.base A X.stack s H) {Q : VK} {E : Value → Shared → Prop} {us : List Value} {vs : List V} {ex ms : List Addr} {st : Store} {ds : List D}
    (I : Inv X pins σ H s) (r : Vals vs us) (rs : RS ca X.K ex ms st H) (rv : VRels ca X.K (vw ex ms st H) ms vs ds) (h : post ca X.K (VRel ca X.K) ex ms st H (noExn (Φ f ds st)) Q (fun _ _ _ => False)) : wpAny (model X.prog X.w) A (call (.ref fa) us) (EP X pins σ Q) E s := by
  obtain ⟨fd, ps, ⟨hb, _⟩, G⟩ := F.ex
  have sp : spI ca X.K Φ f vs H Q (fun _ _ _ => False) := by
    refine ⟨ex, ms, st, ds, rs, rv, ?_⟩
    revert h
    cases Φ f ds st with
    | ok d st' => exact fun h => h
    | exn c vs st' => exact fun h => h.elim
    | stuck => exact fun h => h.elim
  have hl : (us ++ []).length = ps.length := by rw [List.append_nil, ← r.length]; exact G.len _ _ _ _ sp
  have bd := hb s us I.kIn hl
  rw [List.append_nil] at bd
  refine wpAny_call (codeAny_mono (G.run A X.stack s H ⟨us, []⟩ us vs Q (fun _ _ _ => False) hg hr he bd r sp) fun res s' hq => ?_)
  cases res with
  | error e =>
    obtain ⟨_, _, _, _, _, _, _, _, _, _, _, _, z⟩ := hq
    exact z.elim
  | ok fl =>
    cases fl with
    | ret u => exact I.after hq
    | next => exact hq.elim
    | brk => exact hq.elim
    | cont => exact hq.elim
theorem post.noE {α β : Type} {rel : Hp → List Addr → β → α → Prop} {K : PySem.W.Frag} {ex ms : List Addr} {st : Store} {H : Hp} {γ δ : Type} {rel2 : Hp → List Addr → δ → γ → Prop} {r : R α} {f : α → Store → R γ} {Q : δ → Hp → Prop} {E : XK} {Q1 : β → Hp → Prop}
    (h : post ca K rel2 ex ms st H ((noExn r).bd f) Q E) (k : ∀ (a : α) (st1 : Store) (ms1 : List Addr) (H1 : Hp) (b : β), RS ca K ex ms1 st1 H1 → Ext ex ms st H ms1 st1 H1 → rel (vw ex ms1 st1 H1) ms1 b a → post ca K rel2 ex ms1 st1 H1 (f a st1) Q E → Q1 b H1) :
    post ca K rel ex ms st H (noExn r) Q1 (fun _ _ _ => False) := by
  cases r with
  | ok a st' => exact fun ms' H' b q1 q2 q3 => k a st' ms' H' b q1 q2 q3 (post.ext q2 h)
  | exn c vs st' => exact h
  | stuck => exact h
/-- an instance's places -/
theorem own_at (G : GOk ca P X.prog X.w X.K X.mg X.base Φ k) {pins : List (Addr × Obj)} {σ : L2.St} {H : Hp} {s : Shared} (I : Inv X pins σ H s) {a C1 dx : Addr} {vs : List (Str × V)} (hH : H a = some (.ins C1 dx vs)) :
    ∃ od, PySem.W.InstAt s.heap a (PySem.W.instObj C1 dx) C1 (some od) := by
  obtain ⟨mA, O, _⟩ := ins_get I.hok hH
  obtain ⟨od, J, _⟩ := O.look
  exact ⟨od, J⟩
theorem strK_of {K : PySem.W.Frag} {ex ms : List Addr} {st : Store} {H : Hp} {v : V} {d : D} {Q : VK} {E : XK} (rs : RS ca K ex ms st H) (r : VRel ca K (vw ex ms st H) ms v d) (h : post ca K (VRel ca K) ex ms st H (strK d st) Q E) : ∃ x, v = .str x ∧ Q (.str x) H := by
  unfold strK at h
  split at h
  · cases vr_str r
    exact ⟨_, rfl, h.here rs (.str _)⟩
  · exact h.elim
def rOwn (P : Prog) (Φ : Calls) (ca : String → Option Addr) (K : PySem.W.Frag) (m : String) : List V → Hp → VK → Prop := fun vs H Q =>
  ∃ (ex ms : List Addr) (st : Store) (v : V) (x : D) (E : XK), vs = [v] ∧ RS ca K ex ms st H ∧ VRel ca K (vw ex ms st H) ms v x ∧ post ca K (VRel ca K) ex ms st H (methK (findM P x m st) fun f => (noExn (Φ f [x] st)).bd strK) Q E
theorem call_ostr (C : CtxOk ca P k X W) (G : GOk ca P X.prog X.w X.K X.mg X.base Φ k) : CallR X (.type "str") (rOwn P Φ ca X.K "__str__") := by
  intro pins s σ H xs us Q I r h
  obtain ⟨ex, ms, st, v, x, E, rfl, rs, rv, h⟩ := h
  obtain ⟨f, ef, h⟩ := methK_of h
  obtain ⟨a, C1, dx, vs, fa, rfl, hH, cl, hlk, hM, F⟩ := meth_found G rs rv ef
  obtain ⟨u, rfl, ru⟩ := vals1 r
  cases (show u = Value.ref a from ru)
  obtain ⟨od, J⟩ := own_at G I hH
  have un := C.room.un
  refine PySem.W.kso_call (by show X.A.units + 1 + 1 < cLine; omega) I.kIn J hM.at_ hM.fn ?_
  refine wpAny_mono (run_quiet F (A := X.A.in1.in1) C.gd ((C.room.in1.in1).mono (Nat.le_add_right _ _)) I.env0.in1.in1 (us := [.ref a]) (vs := [.ref a]) I (.cons rfl .nil) rs (.cons rv .nil) (Q := fun w H' => ∃ y, w = .str y ∧ Q (.str y) H') (h.noE fun d st1 ms1 H1 w rs1 x1 r1 h1 => strK_of rs1 r1 h1)) (fun u s' z => ?_) fun _ _ z => z
  obtain ⟨w, H', I', rw', y, rfl, q⟩ := z
  obtain ⟨t, rfl⟩ := (show ∃ t, u = Value.str y t from rw')
  exact ⟨.str y, H', I', ⟨t, rfl⟩, q⟩
theorem call_orepr (C : CtxOk ca P k X W) (G : GOk ca P X.prog X.w X.K X.mg X.base Φ k) : CallR X (.builtin "repr") (rOwn P Φ ca X.K "__repr__") := by
  intro pins s σ H xs us Q I r h
  obtain ⟨ex, ms, st, v, x, E, rfl, rs, rv, h⟩ := h
  obtain ⟨f, ef, h⟩ := methK_of h
  obtain ⟨a, C1, dx, vs, fa, rfl, hH, cl, hlk, hM, F⟩ := meth_found G rs rv ef
  obtain ⟨u, rfl, ru⟩ := vals1 r
  cases (show u = Value.ref a from ru)
  obtain ⟨od, J⟩ := own_at G I hH
  obtain ⟨mm, hF⟩ := I.fr
  have un := C.room.un
  refine PySem.W.repr_K (by show X.A.units + 1 < cLine; omega) hF I.ok.mod.kin J hM.at_ hM.fn ?_
  refine wpAny_mono (run_quiet F (A := X.A.in1) C.gd ((C.room.in1).mono (Nat.le_add_right _ _)) I.env0.in1 (us := [.ref a]) (vs := [.ref a]) I (.cons rfl .nil) rs (.cons rv .nil) (Q := fun w H' => ∃ y, w = .str y ∧ Q (.str y) H') (h.noE fun d st1 ms1 H1 w rs1 x1 r1 h1 => strK_of rs1 r1 h1)) (fun u s' z => ?_) fun _ _ z => z
  obtain ⟨w, H', I', rw', y, rfl, q⟩ := z
  obtain ⟨t, rfl⟩ := (show ∃ t, u = Value.str y t from rw')
  exact ⟨.str y, H', I', ⟨t, rfl⟩, q⟩
theorem s_ostr (C : CtxOk ca P k X W) (G : GOk ca P X.prog X.w X.K X.mg X.base Φ k) {e : Expr} {c : CE} {p pos : Pos} (hg : L2.Gl X (nmS "str")) (he : PE X e (tV P Φ ca X.K W c)) (hs : noStar e = true) : PE X (.Call (.Name (nmS "str") p) [e] [] pos) (tV P Φ ca X.K W (.ostr c)) := by
  refine (pe_callTy (call_ostr C G) hg (G.blt "str" (by decide)) (by decide +kernel) (s_cons he s_nil hs) (by decide +kernel) (by decide +kernel) (star_each hs) rfl).imp fun σ H Q h => ?_
  obtain ⟨ex, ms, st, ρ, rs, sl, h⟩ := h
  simp only [evalM, fin_v] at h
  refine ⟨ex, ms, st, ρ, rs, sl, ?_⟩
  simp only [evalEs]
  cases q : evalM P Φ ρ .v c st with
  | stuck => rw [q] at h; exact h.elim
  | exn c' vs st' => rw [q] at h; exact h
  | ok d st' =>
    rw [q] at h
    simp only [R.bd_ok] at h ⊢
    intro ms1 H1 vs rs1 x1 r1
    cases r1 with
    | cons r1 r2 => cases r2; exact ⟨ex, ms1, st', _, d, _, rfl, rs1, r1, post.ext x1 h⟩
theorem s_orepr (C : CtxOk ca P k X W) (G : GOk ca P X.prog X.w X.K X.mg X.base Φ k) {e : Expr} {c : CE} {p pos : Pos} (hg : L2.Gl X (nmS "repr")) (he : PE X e (tV P Φ ca X.K W c)) (hs : noStar e = true) : PE X (.Call (.Name (nmS "repr") p) [e] [] pos) (tV P Φ ca X.K W (.orepr c)) := by
  refine (pe_callB (call_orepr C G) hg (G.blt "repr" (by decide)) (by decide +kernel) (s_cons he s_nil hs) (by decide +kernel) (by decide +kernel) (star_each hs) rfl).imp fun σ H Q h => ?_
  obtain ⟨ex, ms, st, ρ, rs, sl, h⟩ := h
  simp only [evalM, fin_v] at h
  refine ⟨ex, ms, st, ρ, rs, sl, ?_⟩
  simp only [evalEs]
  cases q : evalM P Φ ρ .v c st with
  | stuck => rw [q] at h; exact h.elim
  | exn c' vs st' => rw [q] at h; exact h
  | ok d st' =>
    rw [q] at h
    simp only [R.bd_ok] at h ⊢
    intro ms1 H1 vs rs1 x1 r1
    cases r1 with
    | cons r1 r2 => cases r2; exact ⟨ex, ms1, st', _, d, _, rfl, rs1, r1, post.ext x1 h⟩

theorem ty_shape (G : GOk ca P X.prog X.w X.K X.mg X.base Φ k) {ex ms : List Addr} {st : Store} {H : Hp} {v : V} {d : D} (rs : RS ca X.K ex ms st H) (r : VRel ca X.K (vw ex ms st H) ms v d) (h : tyKnown P d st = true) :
    ∃ tv, TyX X.K H v tv ∧ ((∃ ty, ty ∈ isTys ∧ tv = .type ty) ∨ ∃ c' C', (P.cl c').isSome = true ∧ ca c' = some C' ∧ tv = .ref C') := by
  unfold tyKnown at h
  rw [Bool.and_eq_true] at h
  obtain ⟨hk, hi⟩ := h
  have known : ∀ c, classOf st d = some c → (P.cl c).isSome = true := fun c e => by
    unfold clsKnown at hk; rw [e] at hk; exact hk
  have inst : ∀ (c : String) (C a dx : Addr) (fs : List (Str × V)), ca c = some C → (P.cl c).isSome = true → H a = some (.ins C dx fs) → TyX X.K H (.ref a) (.ref C) := by
    intro c C a dx fs hc hcl hH
    obtain ⟨kc, ek⟩ := Option.isSome_iff_exists.mp hcl
    obtain ⟨C', hc', _, cl, _⟩ := G.cls c kc ek
    rw [hc] at hc'; cases hc'
    obtain ⟨g1, g2⟩ := G.isG ⟨c, hcl⟩
    obtain ⟨f1, f2, _⟩ := G.isF c kc C ek hc
    exact .base (.ins hH cl f1 g1 g2 f2)
  cases r with
  | non => exact ⟨_, .base .non, .inl ⟨_, by decide, rfl⟩⟩
  | bl x => exact ⟨_, .base (.bl x), .inl ⟨_, by decide, rfl⟩⟩
  | int x => exact ⟨_, .base (.int x), .inl ⟨_, by decide, rfl⟩⟩
  | str x => exact ⟨_, .base (.str x), .inl ⟨_, by decide, rfl⟩⟩
  | tup h q =>
    refine ⟨.type "tuple", ?_, .inl ⟨_, by decide, rfl⟩⟩
    rcases Same.seqT vw_le h with (h | ⟨o, h⟩) | ⟨o, its, n, hk, hc, _⟩
    · exact .base (.tup h)
    · exact .fTuple h
    · exact .kTuple hk hc
  | lst h q =>
    refine ⟨.type "list", ?_, .inl ⟨_, by decide, rfl⟩⟩
    rcases Same.seqL vw_le h with (h | ⟨o, h⟩) | ⟨o, its, n, hk, hc, _⟩
    · exact .base (.lst h)
    · exact .base (.frz h)
    · exact .kList hk hc
  | obj hc h hn q => exact ⟨_, inst _ _ _ _ _ hc (known _ rfl) (vw_le _ _ h), .inr ⟨_, _, known _ rfl, hc, rfl⟩⟩
  | own hn =>
    rename_i n a
    cases e : st[n]? with
    | none => simp [isTy, e] at hi
    | some c =>
      cases c with
      | lst xs =>
        obtain ⟨vs, q1, q2⟩ := rs.cells _ _ _ hn e
        exact ⟨.type "list", .base (.lst q1), .inl ⟨_, by decide, rfl⟩⟩
      | dct kvs =>
        obtain ⟨vs, q1, q2⟩ := rs.cells _ _ _ hn e
        exact ⟨.type "dict", .base (.dK q1), .inl ⟨_, by decide, rfl⟩⟩
      | ins c fs =>
        obtain ⟨C, dx, vs, q0, q1, q2, q3⟩ := rs.cells _ _ _ hn e
        have hh := known c (by simp only [classOf, e])
        exact ⟨_, inst _ _ _ _ _ q0 hh q1, .inr ⟨_, _, hh, q0, rfl⟩⟩
      | dead => simp [isTy, e] at hi
def rOeq (P : Prog) (Φ : Calls) (ca : String → Option Addr) (K : PySem.W.Frag) (ng : Bool) : R2 := fun u v H Q =>
  ∃ (ex ms : List Addr) (st : Store) (x y : D) (E : XK), RS ca K ex ms st H ∧ VRel ca K (vw ex ms st H) ms u x ∧ VRel ca K (vw ex ms st H) ms v y ∧ post ca K (VRel ca K) ex ms st H (methK (eqM P ng x y st) fun f => (noExn (Φ f [x, y] st)).bd (boolK fun k st => .ok (.bl (k != ng)) st)) Q E
/-- the class of an instance -/
theorem cls_of {ex ms : List Addr} {st : Store} {H : Hp} {K : PySem.W.Frag} {a C1 dx : Addr} {vs : List (Str × V)} {x : D} {c : String} (rs : RS ca K ex ms st H) (rv : VRel ca K (vw ex ms st H) ms (.ref a) x) (hH : H a = some (.ins C1 dx vs)) (hc : classOf st x = some c) : ca c = some C1 := by
  cases rv with
  | obj q0 q1 q2 q3 =>
    cases hc
    have := vw_le _ _ q1
    rw [hH] at this
    cases this
    exact q0
  | own hn =>
    simp only [classOf] at hc
    split at hc
    · rename_i c' fs e
      cases hc
      obtain ⟨C, dx, vs, q0, q1, _⟩ := rs.cells _ _ _ hn e
      rw [hH] at q1
      cases q1
      exact q0
    · cases hc
  | tup => cases hc
  | lst => cases hc
theorem op_oeq (C : CtxOk ca P k X W) (G : GOk ca P X.prog X.w X.K X.mg X.base Φ k) (ng : Bool) : OpR X (compareOp (if ng = true then .NotEq else .Eq)) (rOeq P Φ ca X.K ng) := by
  intro pins s σ H u v w w2 Q I ru rv h
  obtain ⟨ex, ms, st, x, y, E, rs, rx, ry, h⟩ := h
  obtain ⟨f, ef, h⟩ := methK_of h
  unfold eqM at ef
  split at ef
  · rename_i hcond
    simp only [Bool.and_eq_true] at hcond
    obtain ⟨⟨hty, heq⟩, hng⟩ := hcond
    obtain ⟨a, C1, dx, vs, fa, rfl, hH, cl, hlk, hM, F⟩ := meth_found G rs rx ef
    cases (show w = Value.ref a from ru)
    obtain ⟨od, J⟩ := own_at G I hH
    obtain ⟨mm, hF⟩ := I.fr
    have un := C.room.un
    obtain ⟨tv, tx, sh⟩ := ty_shape G rs ry hty
    obtain ⟨PP, Z, hP, _⟩ := kit_of I rv tx
    have hb := Z.ty (model X.prog X.w) s.heap I.kIn hP
    -- what the class says
    have hfl : ∀ fl, flagOf P x st fl = true → ∃ c kc, classOf st x = some c ∧ P.cl c = some kc ∧ kc.flags.contains fl = true := fun fl z => by
      unfold flagOf at z
      cases ec : (classOf st x).bind P.cl with
      | none => rw [ec] at z; cases z
      | some kc =>
        rw [ec] at z
        obtain ⟨c, e1, e2⟩ := Option.bind_eq_some_iff.mp ec
        exact ⟨c, kc, e1, e2, z⟩
    obtain ⟨c, kc, e1, e2, e3⟩ := hfl "eq" heq
    have hc1 := cls_of rs rx hH e1
    obtain ⟨f1, f2, _⟩ := G.isE c kc C1 e2 hc1
    obtain ⟨_, hobj, _⟩ := G.isF c kc C1 e2 hc1
    obtain ⟨nf1, nf2⟩ := f1 e3
    have hnf : PySem.W.notFirst X.K C1 tv = true := by
      rcases sh with ⟨ty, h1, rfl⟩ | ⟨c', C', h1, h2, rfl⟩
      · exact nf1 ty h1
      · exact nf2 c' C' h1 h2
    cases ng with
    | false =>
      simp only [Bool.false_eq_true, if_false]
      show wpAny (model X.prog X.w) X.A (richCompare .Eq (.ref a) w2) (EP X pins σ Q) X.xe s
      refine PySem.W.cmp_K (op := .Eq) (tb := tv) (by omega) hF I.ok.mod.kin J hb hnf hM.at_ hM.fn ?_
      refine wpAny_mono (run_quiet F (A := X.A) C.gd (C.room.mono (Nat.le_add_right _ _)) I.env0 (us := [.ref a, w2]) (vs := [.ref a, v]) I (.cons rfl (.cons rv .nil)) rs (.cons rx (.cons ry .nil)) (Q := fun w H' => ∃ kk, w = .bl kk ∧ Q (.bl kk) H') (h.noE fun d st1 ms1 H1 w rs1 x1 r1 h1 => ?_)) (fun u s' z => ?_) fun _ _ z => z
      · obtain ⟨kk, rfl, h1⟩ := boolK_of h1
        cases vr_bl r1
        refine ⟨kk, rfl, ?_⟩
        have h1 := h1.here (b := V.bl (kk != false)) rs1 (.bl _)
        simpa using h1
      · obtain ⟨w, H', I', rw', kk, rfl, q⟩ := z
        cases (show u = Value.bool kk from rw')
        exact ⟨.bl kk, H', I', rfl, q⟩
    | true =>
      simp only [if_true]
      simp only [Bool.not_true, Bool.false_or] at hng
      obtain ⟨c2, kc2, g1, g2, g3⟩ := hfl "ne" hng
      rw [e1] at g1
      cases g1
      rw [e2] at g2
      cases g2
      show wpAny (model X.prog X.w) X.A (richCompare .NotEq (.ref a) w2) (EP X pins σ Q) X.xe s
      refine PySem.W.mp_ne (tb := tv) (by show X.A.units + 1 < cLine; omega) (by omega) hF I.ok.mod.kin J hb hnf (f2 g3) hobj hM.at_ hM.fn ?_
      refine wpAny_mono (run_quiet F (A := X.A.in1) C.gd ((C.room.in1).mono (Nat.le_add_right _ _)) I.env0.in1 (us := [.ref a, w2]) (vs := [.ref a, v]) I (.cons rfl (.cons rv .nil)) rs (.cons rx (.cons ry .nil)) (Q := fun w H' => ∃ kk, w = .bl kk ∧ Q (.bl (!kk)) H') (h.noE fun d st1 ms1 H1 w rs1 x1 r1 h1 => ?_)) (fun u s' z => ?_) fun _ _ z => z
      · obtain ⟨kk, rfl, h1⟩ := boolK_of h1
        cases vr_bl r1
        refine ⟨kk, rfl, ?_⟩
        have h1 := h1.here (b := V.bl (kk != true)) rs1 (.bl _)
        have e : (kk != true) = !kk := by cases kk <;> rfl
        rw [e] at h1
        exact h1
      · obtain ⟨w, H', I', rw', kk, rfl, q⟩ := z
        cases (show u = Value.bool kk from rw')
        exact ⟨kk, rfl, .bl (!kk), H', I', rfl, q⟩
  · cases ef
theorem s_oeq (C : CtxOk ca P k X W) (G : GOk ca P X.prog X.w X.K X.mg X.base Φ k) {ng : Bool} {a b : Expr} {c1 c2 : CE} {pos : Pos} (h1 : PE X a (tV P Φ ca X.K W c1)) (h2 : PE X b (tV P Φ ca X.K W c2)) (hm : behindInMarks (if ng = true then .NotEq else .Eq) b = false) :
    PE X (.Compare a [if ng = true then .NotEq else .Eq] [b] pos) (tV P Φ ca X.K W (.oeq ng c1 c2)) :=
  (pe_cmpR (op_oeq C G ng) h1 h2 hm).imp (s_two (f := fun x y st => methK (eqM P ng x y st) fun f => (noExn (Φ f [x, y] st)).bd (boolK fun k st => .ok (.bl (k != ng)) st)) (fun ρ st => rfl) fun ex ms st H x y u v Q E rs r1 r2 h => ⟨ex, ms, st, x, y, E, rs, r1, r2, h⟩)

theorem meets_bool_own {K : PySem.W.Frag} {w : World} {h₀ : Heap} {a C L : Addr} {m : Str → Option Value} {ox : Obj} {od : Option Obj} (hs : PySem.W.findIn K (.ref C) "__bool__" = some none) (hl : PySem.W.findIn K (.ref C) "__len__" = some none) :
    Meets (Builtin.«bool.__new__» ⟨[.type "bool", .ref a], []⟩) (fun _ R s => (∃ (h₀ : Heap) (L : Addr) (m : Str → Option Value), Fr h₀ L s.heap m ∧ K.In h₀) ∧ PySem.W.InstAt s.heap a ox C od ∧ R (.ok (.ret (.bool true))) s) :=
  Meets.of_wp fun prog w A R s hq => by
    obtain ⟨⟨h₀, L, m, FF, X⟩, I, hq⟩ := hq
    obtain ⟨hp, g, d, tk, os⟩ := s
    have f1 := PySem.F.conv_sub_bool
    have tr : ∀ {M : Model} {A : Around} {E : Value → Shared → Prop} {Q : Bool → Shared → Prop}, Q true ⟨hp, g, d, tk, os⟩ → wpAny M A (truthy (.ref a)) Q E ⟨hp, g, d, tk, os⟩ := fun q => PySem.W.truthy_K0 FF X I hs hl q
    repeat (any_goals (first | assumption | (with_reducible refine tr ?_) | wp_step))
    all_goals first | exact ⟨_, rfl, hq⟩ | exact hq | skip
def rBoolO (P : Prog) (ca : String → Option Addr) (K : PySem.W.Frag) : List V → Hp → VK → Prop := fun vs H Q =>
  ∃ (ex ms : List Addr) (st : Store) (v : V) (x : D), vs = [v] ∧ RS ca K ex ms st H ∧ VRel ca K (vw ex ms st H) ms v x ∧ flagOf P x st "tru" = true ∧ Q (.bl true) H
theorem inst_of {ex ms : List Addr} {st : Store} {H : Hp} {K : PySem.W.Frag} {v : V} {x : D} {c : String} (rs : RS ca K ex ms st H) (rv : VRel ca K (vw ex ms st H) ms v x) (hc : classOf st x = some c) : ∃ (a C1 dx : Addr) (vs : List (Str × V)), v = .ref a ∧ ca c = some C1 ∧ H a = some (.ins C1 dx vs) := by
  cases rv with
  | obj q0 q1 q2 q3 =>
    cases hc
    exact ⟨_, _, _, _, rfl, q0, vw_le _ _ q1⟩
  | own hn =>
    simp only [classOf] at hc
    split at hc
    · rename_i c' fs e
      cases hc
      obtain ⟨C, dx, vs, q0, q1, _⟩ := rs.cells _ _ _ hn e
      exact ⟨_, _, _, _, rfl, q0, q1⟩
    · cases hc
  | tup => cases hc
  | lst => cases hc
  | non => cases hc
  | bl => cases hc
  | int => cases hc
  | str => cases hc
theorem call_obool (C : CtxOk ca P k X W) (G : GOk ca P X.prog X.w X.K X.mg X.base Φ k) : CallR X (.type "bool") (rBoolO P ca X.K) := by
  intro pins s σ H xs us Q I r h
  obtain ⟨ex, ms, st, v, x, rfl, rs, rv, hfl, q⟩ := h
  unfold flagOf at hfl
  cases ec : (classOf st x).bind P.cl with
  | none => rw [ec] at hfl; cases hfl
  | some kc =>
    rw [ec] at hfl
    obtain ⟨c, e1, e2⟩ := Option.bind_eq_some_iff.mp ec
    obtain ⟨a, C1, dx, vs, rfl, hc, hH⟩ := inst_of rs rv e1
    obtain ⟨_, _, f3⟩ := G.isE c kc C1 e2 hc
    obtain ⟨g1, g2⟩ := f3 hfl
    obtain ⟨u, rfl, ru⟩ := vals1 r
    cases (show u = Value.ref a from ru)
    obtain ⟨od, J⟩ := own_at G I hH
    obtain ⟨mm, hF⟩ := I.fr
    exact call_bool_1 (meets_bool_own (w := X.w) (h₀ := X.base) (L := X.env.locals) (m := mm) g1 g2) ⟨⟨_, _, _, hF, I.ok.mod.kin⟩, J, rfl, .bl true, H, I, rfl, q⟩
theorem s_obool (C : CtxOk ca P k X W) (G : GOk ca P X.prog X.w X.K X.mg X.base Φ k) {e : Expr} {c : CE} {p pos : Pos} (hg : L2.Gl X (nmS "bool")) (he : PE X e (tV P Φ ca X.K W c)) (hs : noStar e = true) : PE X (.Call (.Name (nmS "bool") p) [e] [] pos) (tV P Φ ca X.K W (.obool c)) := by
  refine (pe_callTy (call_obool C G) hg (G.blt "bool" (by decide)) (by decide +kernel) (s_cons he s_nil hs) (by decide +kernel) (by decide +kernel) (star_each hs) rfl).imp fun σ H Q h => ?_
  obtain ⟨ex, ms, st, ρ, rs, sl, h⟩ := h
  simp only [evalM, fin_v] at h
  refine ⟨ex, ms, st, ρ, rs, sl, ?_⟩
  simp only [evalEs]
  cases q : evalM P Φ ρ .v c st with
  | stuck => rw [q] at h; exact h.elim
  | exn c' vs st' => rw [q] at h; exact h
  | ok d st' =>
    rw [q] at h
    simp only [R.bd_ok] at h ⊢
    intro ms1 H1 vs rs1 x1 r1
    cases r1 with
    | cons r1 r2 =>
      cases r2
      have h := post.ext x1 h
      split at h
      · rename_i hf
        exact ⟨ex, ms1, st', _, d, rfl, rs1, r1, hf, h.here rs1 (.bl _)⟩
      · exact h.elim
theorem s_dct0 {pos : Pos} : PE X (.Dict [] [] pos) (tV P Φ ca X.K W .dct0) := pe_dnewK.imp fun σ H Q h => by
  obtain ⟨ex, ms, st, ρ, rs, sl, h⟩ := h
  simp only [evalM, fin_v, newCell] at h
  intro p hp
  obtain ⟨rs2, x2⟩ := rs.push (o := .dK []) (c := .dct []) hp rfl ⟨[], upd_same, .nil⟩
  refine h _ _ _ rs2 x2 (.own ?_)
  rw [← rs.len, List.getElem?_append_right (Nat.le_refl _)]; simp
def kwNames : List Keyword → Option (List Str)
  | [] => some []
  | ⟨some n, _, _⟩ :: r => (kwNames r).map (n :: ·)
  | ⟨none, _, _⟩ :: _ => none
theorem kw_all {env : PySem.Env} {pos : Pos} : ∀ {kws : List Keyword} {ns : List Str}, kwNames kws = some ns → (backToKw pos (keywordEach kws env)).all (·.1.isSome) = true ∧ (backToKw pos (keywordEach kws env)).filterMap (·.1) = ns ∧ (backToKw pos (keywordEach kws env)).any (·.1.isNone) = false
  | [], ns, h => by cases h; exact ⟨rfl, rfl, rfl⟩
  | ⟨none, _, _⟩ :: _, ns, h => by cases h
  | ⟨some n, e, p⟩ :: r, ns, h => by
    simp only [kwNames, Option.map_eq_some_iff] at h
    obtain ⟨ns', h1, rfl⟩ := h
    obtain ⟨a, b, c⟩ := kw_all (env := env) (pos := pos) h1
    refine ⟨?_, ?_, ?_⟩
    · show (true && _) = true
      rw [Bool.true_and]; exact a
    · show n :: _ = _
      rw [← b]; rfl
    · show (false || _) = false
      rw [Bool.false_or]; exact c
theorem k_nil : PK X [] (tAs P Φ ca X.K W []) := ⟨fun pos pins s σ H Q I h => pk_nil.run pos pins s σ H Q I (by
  obtain ⟨ex, ms, st, ρ, rs, sl, h⟩ := h
  simp only [evalEs] at h
  exact h.here rs .nil)⟩
theorem k_cons {nm : Option Str} {e : Expr} {kp : Pos} {kws : List Keyword} {c : CE} {cs : List CE} (h1 : PE X e (tV P Φ ca X.K W c)) (h2 : PK X kws (tAs P Φ ca X.K W cs)) : PK X (⟨nm, e, kp⟩ :: kws) (tAs P Φ ca X.K W (c :: cs)) :=
  ⟨fun pos pins s σ H Q I h => (pk_cons h1 h2).run pos pins s σ H Q I (by
    obtain ⟨ex, ms, st, ρ, rs, sl, h⟩ := h
    simp only [evalEs] at h
    refine ⟨ex, ms, st, ρ, rs, sl, h.bd fun d st1 ms1 H1 v rs1 x1 r1 h1 => ⟨ex, ms1, st1, ρ, rs1, sl.mono x1.same x1.pre, h1.bd fun ds st2 ms2 H2 vs rs2 x2 r2 h2 => ?_⟩⟩
    exact h2.here rs2 (.cons (r1.mono x2.same x2.pre) r2))⟩
theorem permW_rels {K : PySem.W.Frag} {F : Hp} {ms : List Addr} {vs : List V} {ds : List D} (r : VRels ca K F ms vs ds) : ∀ pm : List Nat, VRels ca K F ms (permW pm vs) (permW pm ds)
  | [] => .nil
  | i :: pm => by
    have ih := permW_rels r pm
    unfold permW at ih ⊢
    rw [List.filterMap_cons, List.filterMap_cons]
    cases e : ds[i]? with
    | none =>
      have : vs[i]? = none := by
        rw [List.getElem?_eq_none_iff] at e ⊢
        rw [r.length]; exact e
      rw [this]; exact ih
    | some d =>
      obtain ⟨v, e1, rv⟩ := r.getD e
      rw [e1]
      exact .cons rv ih
theorem permW_vals {vs : List V} {us : List Value} (r : Vals vs us) : ∀ pm : List Nat, Vals (permW pm vs) (permW pm us)
  | [] => .nil
  | i :: pm => by
    have ih := permW_vals r pm
    unfold permW at ih ⊢
    rw [List.filterMap_cons, List.filterMap_cons]
    cases e : vs[i]? with
    | none =>
      have : us[i]? = none := by
        rw [List.getElem?_eq_none_iff] at e ⊢
        rw [← r.length]; exact e
      rw [this]; exact ih
    | some v =>
      obtain ⟨u, e1, rv⟩ := r.get e
      rw [e1]
      exact .cons rv ih
/-- what stands behind positional and keyword values -/
theorem two_args {cs ks : List CE} {σ : L2.St} {H : Hp} {f : List D → List D → Store → R D} {Q : VK} {R2 : List V → List V → Hp → Prop} {ex ms : List Addr} {st : Store} {ρ : MP.Env} (rs : RS ca X.K ex ms st H) (sl : SlotRel ca X.K (vw ex ms st H) ms σ ρ)
    (h : post ca X.K (VRel ca X.K) ex ms st H ((evalEs P Φ ρ cs st).bd fun xs st => (evalEs P Φ ρ ks st).bd fun ws st => f xs ws st) Q (WE' W σ))
    (go : ∀ (xs ws : List D) (st2 : Store) (ms2 : List Addr) (H2 : Hp) (vs zs : List V), xs.length = cs.length → ws.length = ks.length → RS ca X.K ex ms2 st2 H2 → VRels ca X.K (vw ex ms2 st2 H2) ms2 vs xs → VRels ca X.K (vw ex ms2 st2 H2) ms2 zs ws → post ca X.K (VRel ca X.K) ex ms2 st2 H2 (f xs ws st2) Q (WE' W σ) → R2 vs zs H2) :
    tAs P Φ ca X.K W cs σ H fun vs H1 => tAs P Φ ca X.K W ks σ H1 fun zs H2 => R2 vs zs H2 :=
  ⟨ex, ms, st, ρ, rs, sl, h.bdE fun xs st1 ms1 H1 vs eq rs1 x1 r1 h1 => ⟨ex, ms1, st1, ρ, rs1, sl.mono x1.same x1.pre, h1.bdE fun ws st2 ms2 H2 zs eq2 rs2 x2 r2 h2 => go xs ws st2 ms2 H2 vs zs (evalEs_length eq) (evalEs_length eq2) rs2 (r1.mono x2.same x2.pre) r2 h2⟩⟩

theorem s_newK (C : CtxOk ca P k X W) (G : GOk ca P X.prog X.w X.K X.mg X.base Φ k) {c : String} {m : Bool} {es : List Expr} {cs kcs : List CE} {kws : List Keyword} {ks : List String} {pm : List Nat} {p pos : Pos} (hg : L2.Gl X (nmS c)) (hd : (nmS c == ("__debug__" : Str)) = false) (ha : PA X es (tAs P Φ ca X.K W cs)) (hs : es.all noStar = true) (hlen : cs.length = es.length)
    (hk : PK X kws (tAs P Φ ca X.K W kcs)) (hn : kwNames kws = some (ks.map nmS)) (hkl : kcs.length = ks.length) : PE X (.Call (.Name (nmS c) p) es kws pos) (tV P Φ ca X.K W (.newK c m cs ks pm kcs)) := by
  cases ef : (P.cl c).bind (fun k => k.meths.lookup "__init__") with
  | none =>
    refine PE.no.imp fun σ H Q h => ?_
    obtain ⟨ex, ms, st, ρ, rs, sl, h⟩ := h
    simp only [evalM, ef] at h
    exact h
  | some f =>
    by_cases hpat : (P.kw f).contains (cs.length + 1, ks, pm) = true
    · obtain ⟨kc, ek, ei⟩ := Option.bind_eq_some_iff.mp ef
      obtain ⟨C1, hc, hm, _, _, inits, _, _⟩ := G.cls c kc ek
      obtain ⟨fa, M, F⟩ := inits f ei
      obtain ⟨n1, n2, n3⟩ := kw_all (env := X.env) (pos := pos) hn
      refine ⟨fun pins s σ H Q I h => wpAny_Call_Name_kw (ld_glob I hg hm ?_ hd)⟩
      obtain ⟨ex, ms, st, ρ, rs, sl, h⟩ := h
      simp only [evalM, ef, hpat, if_true, fin_v] at h
      have mem : (cs.length + 1, ks, pm) ∈ P.kw f := List.contains_iff_mem.mp hpat
      have run : ∀ {s2 : Shared} {H2 : Hp} {us ws : List Value} {vs zs : List V} {xs wsD : List D} {st2 : Store} {ms2 : List Addr}, xs.length = cs.length → wsD.length = kcs.length → L2.Inv X pins σ H2 s2 → Vals vs us → Vals zs ws → RS ca X.K ex ms2 st2 H2 → VRels ca X.K (vw ex ms2 st2 H2) ms2 vs xs → VRels ca X.K (vw ex ms2 st2 H2) ms2 zs wsD → post ca X.K (VRel ca X.K) ex ms2 st2 H2 (newK Φ f c m (xs ++ permW pm wsD) st2) Q (WE' W σ) →
          wpAny (model X.prog X.w) X.A (call (.ref C1) us ((ks.map nmS).zip ws)) (EP X pins σ Q) X.xe s2 := by
        intro s2 H2 us ws vs zs xs wsD st2 ms2 l1 l2 I2 rv rz rs2 ra rb h2
        refine make_run C G ek ei hc (all := us ++ permW pm ws) (vs := vs ++ permW pm zs) (fun fd ps hb s x _ hl => ?_) I2 (rv.append (permW_vals rz pm)) rs2 (ra.append (permW_rels rb pm)) h2
        have := hb.2 _ mem s (x :: us) ws (by show us.length + 1 = cs.length + 1; rw [← rv.length, ra.length, l1]) (by show ws.length = ks.length; rw [← rz.length, rb.length, l2, hkl])
        exact this
      cases es with
      | nil =>
        have hcs : cs = [] := List.length_eq_zero_iff.mp hlen
        subst hcs
        simp only [evalEs, R.bd_ok] at h
        refine PySem.W.callWith_KW0 (h₀ := X.base) I.ok.mod.kin M.kp n1 ?_ (by rw [n3]; rfl)
        have rd : tAs P Φ ca X.K W kcs σ H fun zs H2 => ∃ (ms2 : List Addr) (st2 : Store) (wsD : List D), wsD.length = kcs.length ∧ RS ca X.K ex ms2 st2 H2 ∧ VRels ca X.K (vw ex ms2 st2 H2) ms2 zs wsD ∧ post ca X.K (VRel ca X.K) ex ms2 st2 H2 (newK Φ f c m ([] ++ permW pm wsD) st2) Q (WE' W σ) :=
          ⟨ex, ms, st, ρ, rs, sl, h.bdE fun ws st2 ms2 H2 zs eq rs2 x2 r2 h2 => ⟨ms2, st2, ws, evalEs_length eq, rs2, r2, h2⟩⟩
        refine thn (hk.run pos pins s σ H _ I rd) fun ws s2 ⟨zs, H2, I2, rz, ms2, st2, wsD, l2, rs2, rb, h2⟩ => ⟨I2.kIn, ?_⟩
        rw [n2]
        exact run (us := []) (vs := []) (xs := []) rfl l2 I2 .nil rz rs2 .nil rb h2
      | cons e es =>
        rw [List.all_cons, Bool.and_eq_true] at hs
        have rd := two_args (R2 := fun vs zs H2 => ∃ (ms2 : List Addr) (st2 : Store) (xs wsD : List D), xs.length = cs.length ∧ wsD.length = kcs.length ∧ RS ca X.K ex ms2 st2 H2 ∧ VRels ca X.K (vw ex ms2 st2 H2) ms2 vs xs ∧ VRels ca X.K (vw ex ms2 st2 H2) ms2 zs wsD ∧ post ca X.K (VRel ca X.K) ex ms2 st2 H2 (newK Φ f c m (xs ++ permW pm wsD) st2) Q (WE' W σ)) rs sl h
          fun xs ws st2 ms2 H2 vs zs l1 l2 rs2 ra rb h2 => ⟨ms2, st2, xs, ws, l1, l2, rs2, ra, rb, h2⟩
        refine PySem.W.callWith_KW (h₀ := X.base) I.ok.mod.kin M.kp n1 (thn (ha.run pos pins s σ H _ I rd) fun us s1 ⟨vs, H1, I1, rv, q⟩ => ?_) (by rw [show (backTo pos (starEach (e :: es) X.env)).any (·.1) = false from star_any (by rw [List.all_cons, hs.1, hs.2]; rfl), n3]; rfl) (star_each hs.1)
        refine thn (hk.run pos pins s1 σ H1 _ I1 q) fun ws s2 ⟨zs, H2, I2, rz, ms2, st2, xs, wsD, l1, l2, rs2, ra, rb, h2⟩ => ⟨I2.kIn, ?_⟩
        rw [n2]
        exact run l1 l2 I2 rv rz rs2 ra rb h2
    · refine PE.no.imp fun σ H Q h => ?_
      obtain ⟨ex, ms, st, ρ, rs, sl, h⟩ := h
      simp only [evalM, ef, if_neg hpat] at h
      exact h
theorem s_callK (C : CtxOk ca P k X W) (G : GOk ca P X.prog X.w X.K X.mg X.base Φ k) {f : String} {es : List Expr} {cs kcs : List CE} {kws : List Keyword} {ks : List String} {pm : List Nat} {p pos : Pos} (hg : L2.Gl X (nmS f)) (hd : (nmS f == ("__debug__" : Str)) = false) (ha : PA X es (tAs P Φ ca X.K W cs)) (hs : es.all noStar = true) (hlen : cs.length = es.length)
    (hk : PK X kws (tAs P Φ ca X.K W kcs)) (hn : kwNames kws = some (ks.map nmS)) (hkl : kcs.length = ks.length) : PE X (.Call (.Name (nmS f) p) es kws pos) (tV P Φ ca X.K W (.callK f cs ks pm kcs)) := by
  by_cases hf : (P.glob.contains f && (P.kw f).contains (cs.length, ks, pm)) = true
  · have hf' := hf
    rw [Bool.and_eq_true] at hf'
    obtain ⟨fa, hm, hkp, F⟩ := G.fns f (List.contains_iff_mem.mp hf'.1)
    have mem : (cs.length, ks, pm) ∈ P.kw f := List.contains_iff_mem.mp hf'.2
    obtain ⟨n1, n2, n3⟩ := kw_all (env := X.env) (pos := pos) hn
    refine ⟨fun pins s σ H Q I h => wpAny_Call_Name_kw (ld_glob I hg hm ?_ hd)⟩
    obtain ⟨ex, ms, st, ρ, rs, sl, h⟩ := h
    simp only [evalM, hf, if_true, fin_v] at h
    have run : ∀ {s2 : Shared} {H2 : Hp} {us ws : List Value} {vs zs : List V} {xs wsD : List D} {st2 : Store} {ms2 : List Addr}, xs.length = cs.length → wsD.length = kcs.length → L2.Inv X pins σ H2 s2 → Vals vs us → Vals zs ws → RS ca X.K ex ms2 st2 H2 → VRels ca X.K (vw ex ms2 st2 H2) ms2 vs xs → VRels ca X.K (vw ex ms2 st2 H2) ms2 zs wsD → post ca X.K (VRel ca X.K) ex ms2 st2 H2 (Φ f (xs ++ permW pm wsD) st2) Q (WE' W σ) →
        wpAny (model X.prog X.w) X.A (call (.ref fa) us ((ks.map nmS).zip ws)) (EP X pins σ Q) X.xe s2 := by
      intro s2 H2 us ws vs zs xs wsD st2 ms2 l1 l2 I2 rv rz rs2 ra rb h2
      obtain ⟨fd, ps, ⟨_, hkw⟩, Gf⟩ := F.ex
      have r := rv.append (permW_vals rz pm)
      have sp : spI ca X.K Φ f (vs ++ permW pm zs) H2 Q (WE' W σ) := ⟨ex, ms2, st2, _, rs2, ra.append (permW_rels rb pm), h2⟩
      have bd := hkw _ mem s2 us ws (by show us.length = cs.length; rw [← rv.length, ra.length, l1]) (by show ws.length = ks.length; rw [← rz.length, rb.length, l2, hkl])
      refine wpAny_call (codeAny_mono (Gf.run X.A X.stack s2 H2 ⟨us, (ks.map nmS).zip ws⟩ _ _ Q (WE' W σ) C.gd (C.room.mono (Nat.le_add_right _ _)) I2.env0 bd r sp) fun res s' hq => ?_)
      cases res with
      | error e => exact passAt C.tk σ pins H2 s2 e s' I2 hq
      | ok fl =>
        cases fl with
        | ret u => exact I2.after hq
        | next => exact hq.elim
        | brk => exact hq.elim
        | cont => exact hq.elim
    cases es with
    | nil =>
      have hcs : cs = [] := List.length_eq_zero_iff.mp hlen
      subst hcs
      simp only [evalEs, R.bd_ok] at h
      refine PySem.W.callWith_KW0 (h₀ := X.base) I.ok.mod.kin hkp n1 ?_ (by rw [n3]; rfl)
      have rd : tAs P Φ ca X.K W kcs σ H fun zs H2 => ∃ (ms2 : List Addr) (st2 : Store) (wsD : List D), wsD.length = kcs.length ∧ RS ca X.K ex ms2 st2 H2 ∧ VRels ca X.K (vw ex ms2 st2 H2) ms2 zs wsD ∧ post ca X.K (VRel ca X.K) ex ms2 st2 H2 (Φ f ([] ++ permW pm wsD) st2) Q (WE' W σ) :=
        ⟨ex, ms, st, ρ, rs, sl, h.bdE fun ws st2 ms2 H2 zs eq rs2 x2 r2 h2 => ⟨ms2, st2, ws, evalEs_length eq, rs2, r2, h2⟩⟩
      refine thn (hk.run pos pins s σ H _ I rd) fun ws s2 ⟨zs, H2, I2, rz, ms2, st2, wsD, l2, rs2, rb, h2⟩ => ⟨I2.kIn, ?_⟩
      rw [n2]
      exact run (us := []) (vs := []) (xs := []) rfl l2 I2 .nil rz rs2 .nil rb h2
    | cons e es =>
      rw [List.all_cons, Bool.and_eq_true] at hs
      have rd := two_args (R2 := fun vs zs H2 => ∃ (ms2 : List Addr) (st2 : Store) (xs wsD : List D), xs.length = cs.length ∧ wsD.length = kcs.length ∧ RS ca X.K ex ms2 st2 H2 ∧ VRels ca X.K (vw ex ms2 st2 H2) ms2 vs xs ∧ VRels ca X.K (vw ex ms2 st2 H2) ms2 zs wsD ∧ post ca X.K (VRel ca X.K) ex ms2 st2 H2 (Φ f (xs ++ permW pm wsD) st2) Q (WE' W σ)) rs sl h
        fun xs ws st2 ms2 H2 vs zs l1 l2 rs2 ra rb h2 => ⟨ms2, st2, xs, ws, l1, l2, rs2, ra, rb, h2⟩
      refine PySem.W.callWith_KW (h₀ := X.base) I.ok.mod.kin hkp n1 (thn (ha.run pos pins s σ H _ I rd) fun us s1 ⟨vs, H1, I1, rv, q⟩ => ?_) (by rw [show (backTo pos (starEach (e :: es) X.env)).any (·.1) = false from star_any (by rw [List.all_cons, hs.1, hs.2]; rfl), n3]; rfl) (star_each hs.1)
      refine thn (hk.run pos pins s1 σ H1 _ I1 q) fun ws s2 ⟨zs, H2, I2, rz, ms2, st2, xs, wsD, l1, l2, rs2, ra, rb, h2⟩ => ⟨I2.kIn, ?_⟩
      rw [n2]
      exact run l1 l2 I2 rv rz rs2 ra rb h2
  · refine PE.no.imp fun σ H Q h => ?_
    obtain ⟨ex, ms, st, ρ, rs, sl, h⟩ := h
    simp only [evalM, if_neg hf] at h
    exact h

theorem oeq_bl {ng : Bool} {x y : D} {o : Option String} {st st' : Store} {d : D} (h : (methK o fun f => (noExn (Φ f [x, y] st)).bd (boolK fun k st => .ok (.bl (k != ng)) st)) = .ok d st') : ∃ kk, d = .bl kk := by
  cases o with
  | none => cases h
  | some f =>
    rw [methK_some] at h
    cases q : noExn (Φ f [x, y] st) with
    | stuck => rw [q] at h; cases h
    | exn => rw [q] at h; cases h
    | ok z st1 =>
      rw [q, R.bd_ok] at h
      unfold boolK at h
      split at h
      · cases h; exact ⟨_, rfl⟩
      · cases h
theorem t_oeq (C : CtxOk ca P k X W) (G : GOk ca P X.prog X.w X.K X.mg X.base Φ k) {ng : Bool} {a b : Expr} {c1 c2 : CE} {pos : Pos} (h1 : PE X a (tV P Φ ca X.K W c1)) (h2 : PE X b (tV P Φ ca X.K W c2)) (hm : behindInMarks (if ng = true then .NotEq else .Eq) b = false) :
    PT X (.Compare a [if ng = true then .NotEq else .Eq] [b] pos) (tT P Φ ca X.K W (.oeq ng c1 c2)) := by
  refine (pt_cmpR (op_oeq C G ng) h1 h2 hm).imp fun σ H Q h => ?_
  obtain ⟨ex, ms, st, ρ, rs, sl, h⟩ := h
  simp only [evalM, fin] at h
  refine ⟨ex, ms, st, ρ, rs, sl, ?_⟩
  have e : ∀ {α β γ : Type} (m : R α) (f : α → Store → R β) (g : β → Store → R γ), (m.bd f).bd g = m.bd fun a st => (f a st).bd g := fun m f g => by cases m <;> rfl
  rw [e] at h
  refine h.bd fun d st1 ms1 H1 u rs1 x1 r1 h1 => ⟨ex, ms1, st1, ρ, rs1, sl.mono x1.same x1.pre, ?_⟩
  rw [e] at h1
  refine h1.bd fun d2 st2 ms2 H2 v rs2 x2 r2 h2 => ⟨ex, ms2, st2, d, d2, WE' W σ, rs2, r1.mono x2.same x2.pre, r2, h2.bdE fun z st3 ms3 H3 w eq rs3 x3 r3 h3 => ?_⟩
  obtain ⟨kk, rfl⟩ := oeq_bl eq
  cases vr_bl r3
  exact ⟨kk, rfl, h3.here rs3 rfl⟩
end
end MP
end

section
set_option linter.all false
set_option autoImplicit false
set_option maxHeartbeats 4000000
set_option maxRecDepth 100000
namespace MP
open PySem L2 PyProof.Rows

/-- what the check knows of the def or the block -/
structure Ck where
  sc : Scope
  N : List Str
  fn : Str → Bool

def visB (sc : Scope) (x : Str) : Bool := match sc.names.lookup x with
  | some .local => true
  | some .cell => true
  | some .free => true
  | _ => false
def locB (sc : Scope) (x : Str) : Bool := match sc.names.lookup x with
  | some .local => true
  | some .cell => true
  | _ => false
def glB (sc : Scope) (x : Str) : Bool := match sc.names.lookup x with
  | some .globalImplicit => true
  | _ => false
def isLocal (sc : Scope) (x : Str) : Bool := match sc.names.lookup x with
  | some .local => true
  | _ => false
def noDbg (x : Str) : Bool := !(x == ("__debug__" : Str)) && !(x == ("__classdict__" : Str))
def glN (k : Ck) (x : String) (y : Str) : Bool := decide (y = nmS x) && glB k.sc y && noDbg y
def cstB : D → Expr → Bool
  | .int i, .Constant (.int j) _ _ => decide (j = i)
  | .bl i, .Constant (.bool j) _ _ => decide (j = i)
  | .str i, .Constant (.str j) _ _ => decide (j = i)
  | .non, .Constant .none _ _ => true
  | _, _ => false
def plainC : CE → Bool
  | .and _ _ => false
  | .or _ _ => false
  | .not _ => false
  | .rng _ => false
  | .enu _ => false
  | .zip _ => false
  | _ => true
def plainI : CE → Bool
  | .rng _ => false
  | .enu _ => false
  | .zip _ => false
  | _ => true
def isTupE : Expr → Bool
  | .Tuple _ _ _ => true
  | _ => false
def notSet : Expr → Bool
  | .Set _ _ _ => false
  | _ => true
def tyN (k : Ck) : Ty → Expr → Bool
  | t, .Name y _ => glN k (tyName t) y
  | _, _ => false
def tyNs (k : Ck) : List Ty → List Expr → Bool
  | [], [] => true
  | t :: ts, e :: es => tyN k t e && tyNs k ts es
  | _, _ => false
def tysB (k : Ck) (ts : List Ty) : Expr → Bool
  | .Name y _ => match ts with
    | [t] => glN k (tyName t) y
    | _ => false
  | .Tuple es _ _ => !ts.isEmpty && decide (ts.length ≤ 1000) && tyNs k ts es
  | _ => false
mutual
def chkTg (k : Ck) : Tg → Expr → Bool
  | .var i, e => match e with
    | .Name x _ => decide (k.N[i]? = some x) && locB k.sc x && (k.fn x || isLocal k.sc x)
    | _ => false
  | .tup ts, e => match e with
    | .Tuple es _ _ => chkTgs k ts es
    | _ => false
def chkTgs (k : Ck) : List Tg → List Expr → Bool
  | [], es => es.isEmpty
  | t :: ts, es => match es with
    | e :: es => noStar e && chkTg k t e && chkTgs k ts es
    | [] => false
end
def blkOf (k : Ck) (scope : Scope) : Ck := ⟨relS scope k.sc, k.N, fun x => scope.names.lookup x == some .cell⟩
def ownOf (k : Ck) (own : List Nat) : List (Str × Nat) := own.map fun i => (k.N.getD i ⟨#[]⟩, i)

def noE : Expr := .Constant .none 0 ⟨0, 0, 0, 0⟩
def subMd : Md → Md
  | .t => .t
  | _ => .v
def modeOk (md : Md) (e : Expr) : Bool := match md with
  | .t => plainT e
  | _ => true
mutual
def chkM (k : Ck) (md : Md) (tg : Expr) : CE → Expr → Bool
  | .var i, e => modeOk md e && match e with
    | .Name x _ => decide (k.N[i]? = some x) && visB k.sc x && noDbg x
    | _ => false
  | .gc x, e => modeOk md e && match e with
    | .Name y _ => glN k x y
    | _ => false
  | .cst d, e => modeOk md e && cstB d e
  | .bin o a b, e => modeOk md e && match e with
    | .BinOp x op y _ => decide (op = opOf o) && chkM k .v noE a x && chkM k .v noE b y
    | _ => false
  | .neg a, e => modeOk md e && match e with
    | .UnaryOp op x _ => decide (op = .USub) && chkM k .v noE a x
    | _ => false
  | .cmp o a b, e => match e with
    | .Compare x ops ys _ => match ops, ys with
      | [op], [y] => decide (op = cmpOf o) && !behindInMarks (cmpOf o) y && chkM k .v noE a x && chkM k .v noE b y
      | _, _ => false
    | _ => false
  | .chain o o' a b c, e => match e with
    | .Compare x ops ys _ => match ops, ys with
      | [op, op'], [y, z] => decide (op = cmpOf o) && decide (op' = cmpOf o') && !behindInMarks (cmpOf o') z && chkM k .v noE a x && chkM k .v noE b y && chkM k .v noE c z
      | _, _ => false
    | _ => false
  | .and a b, e => match e with
    | .BoolOp op xs pos => match xs with
      | x :: y :: [] => decide (op = .And) && chkM k (subMd md) noE a x && chkM k (subMd md) noE b y
      | x :: y :: z :: r => decide (op = .And) && chkM k (subMd md) noE a x && chkM k (subMd md) noE b (.BoolOp .And (y :: z :: r) pos)
      | _ => false
    | _ => false
  | .or a b, e => match e with
    | .BoolOp op xs pos => match xs with
      | x :: y :: [] => decide (op = .Or) && chkM k (subMd md) noE a x && chkM k (subMd md) noE b y
      | x :: y :: z :: r => decide (op = .Or) && chkM k (subMd md) noE a x && chkM k (subMd md) noE b (.BoolOp .Or (y :: z :: r) pos)
      | _ => false
    | _ => false
  | .not a, e => match e with
    | .UnaryOp op x _ => decide (op = .Not) && chkM k (subMd md) noE a x
    | _ => false
  | .ite t a b, e => modeOk md e && match e with
    | .IfExp c x y _ => chkM k .t noE t c && chkM k .v noE a x && chkM k .v noE b y
    | _ => false
  | .tup cs, e => modeOk md e && match e with
    | .Tuple es _ _ => chkEs k cs es
    | _ => false
  | .lst _ cs, e => modeOk md e && match e with
    | .List es _ => chkEs k cs es
    | _ => false
  | .item a b, e => modeOk md e && match e with
    | .Subscript x y _ => noSlice y && chkM k .v noE a x && chkM k .v noE b y
    | _ => false
  | .sl a lo hi, e => modeOk md e && match e with
    | .Subscript x y _ => match y with
      | .Slice l h s _ => s.isNone && chkM k .v noE a x && chkO k lo l && chkO k hi h
      | _ => false
    | _ => false
  | .prim p cs, e => modeOk md e && match e with
    | .Call f es kws _ => match f with
      | .Name y _ => glN k (primN p) y && (primN p ∈ bltNames) && kws.isEmpty && !es.isEmpty && chkEs k cs es
      | _ => false
    | _ => false
  | .meth m o cs, e => modeOk md e && match e with
    | .Call f es kws pos => match f with
      | .Attribute x y apos => methOk m && decide (y = nmS (methN m)) && noSup x && (apos.endLine == pos.line) && decide (es.length < 30) && kws.isEmpty && chkM k .v noE o x && chkEs k cs es
      | _ => false
    | _ => false
  | .call g cs, e => modeOk md e && match e with
    | .Call f es kws _ => match f with
      | .Name y _ => glN k g y && kws.isEmpty && chkEs k cs es
      | _ => false
    | _ => false
  | .new c _ cs, e => modeOk md e && match e with
    | .Call f es kws _ => match f with
      | .Name y _ => glN k c y && kws.isEmpty && chkEs k cs es
      | _ => false
    | _ => false
  | .ometh o m cs, e => modeOk md e && match e with
    | .Call f es kws pos => match f with
      | .Attribute x y apos => decide (y = nmS m) && noSup x && (apos.endLine == pos.line) && decide (es.length < 30) && kws.isEmpty && chkM k .v noE o x && chkEs k cs es
      | _ => false
    | _ => false
  | .attr o f, e => modeOk md e && match e with
    | .Attribute x y _ => decide (y = nmS f) && noSup x && chkM k .v noE o x
    | _ => false
  | .lc _ own elt tg it ifs, e => modeOk md e && match e with
    | .ListComp x gens scope _ => match gens with
      | [g] => decide (g.is_async = 0) && notSet g.iter && chkM k .i g.target it g.iter && blkC k.N k.sc scope (ownOf k own) && (tg.vars.all fun i => own.contains i) && chkTg (blkOf k scope) tg g.target && chkIfs (blkOf k scope) ifs g.ifs && chkM (blkOf k scope) .v noE elt x
      | _ => false
    | _ => false
  | .isi a ts, e => modeOk md e && match e with
    | .Call f es kws _ => match f with
      | .Name y _ => match es with
        | [x, te] => glN k "isinstance" y && kws.isEmpty && noStar x && tysB k ts te && chkM k .v noE a x
        | _ => false
      | _ => false
    | _ => false
  | .fstr cs, e => modeOk md e && match e with
    | .JoinedStr es _ => decide (2 ≤ es.length) && chkFs k cs es
    | _ => false
  | .fmt a, e => modeOk md e && match e with
    | .FormattedValue x c s _ => decide (c = -1) && s.isNone && chkM k .v noE a x
    | _ => false
  | .frz a, e => modeOk md e && chkM k .v noE a e
  | .never, _ => true
  | .dct0, e => modeOk md e && match e with
    | .Dict ks vs _ => ks.isEmpty && vs.isEmpty
    | _ => false
  | .newK c _ cs ks _ kcs, e => modeOk md e && match e with
    | .Call f es kws _ => match f with
      | .Name y _ => glN k c y && decide (kwNames kws = some (ks.map nmS)) && decide (kcs.length = ks.length) && chkEs k cs es && chkKs k kcs kws
      | _ => false
    | _ => false
  | .callK g cs ks _ kcs, e => modeOk md e && match e with
    | .Call f es kws _ => match f with
      | .Name y _ => glN k g y && decide (kwNames kws = some (ks.map nmS)) && decide (kcs.length = ks.length) && chkEs k cs es && chkKs k kcs kws
      | _ => false
    | _ => false
  | .oeq ng a b, e => match e with
    | .Compare x ops ys _ => match ops, ys with
      | [op], [y] => decide (op = if ng = true then .NotEq else .Eq) && !behindInMarks (if ng = true then .NotEq else .Eq) y && chkM k .v noE a x && chkM k .v noE b y
      | _, _ => false
    | _ => false
  | .ostr a, e => modeOk md e && match e with
    | .Call f es kws _ => match f with
      | .Name y _ => match es with
        | [x] => glN k "str" y && kws.isEmpty && noStar x && chkM k .v noE a x
        | _ => false
      | _ => false
    | _ => false
  | .orepr a, e => modeOk md e && match e with
    | .Call f es kws _ => match f with
      | .Name y _ => match es with
        | [x] => glN k "repr" y && kws.isEmpty && noStar x && chkM k .v noE a x
        | _ => false
      | _ => false
    | _ => false
  | .obool a, e => modeOk md e && match e with
    | .Call f es kws _ => match f with
      | .Name y _ => match es with
        | [x] => glN k "bool" y && kws.isEmpty && noStar x && chkM k .v noE a x
        | _ => false
      | _ => false
    | _ => false
  | .rng cs, e => match md, e with
    | .i, .Call f es kws _ => match f with
      | .Name y _ => glN k "range" y && kws.isEmpty && (decide (es.length = 1) || decide (es.length = 2)) && chkEs k cs es
      | _ => false
    | _, _ => false
  | .enu cs, e => match md, e with
    | .i, .Call f es kws _ => match f with
      | .Name y _ => isTupE tg && glN k "enumerate" y && kws.isEmpty && decide (es.length = 1) && chkEs k cs es
      | _ => false
    | _, _ => false
  | .zip cs, e => match md, e with
    | .i, .Call f es kws _ => match f with
      | .Name y _ => isTupE tg && glN k "zip" y && kws.isEmpty && (decide (es.length = 2) || decide (es.length = 3)) && chkEs k cs es
      | _ => false
    | _, _ => false
def chkEs (k : Ck) : List CE → List Expr → Bool
  | [], es => es.isEmpty
  | c :: cs, es => match es with
    | e :: es => noStar e && chkM k .v noE c e && chkEs k cs es
    | [] => false
def chkKs (k : Ck) : List CE → List Keyword → Bool
  | [], kws => kws.isEmpty
  | c :: cs, kws => match kws with
    | w :: kws => chkM k .v noE c w.value && chkKs k cs kws
    | [] => false
def chkFs (k : Ck) : List CE → List Expr → Bool
  | [], es => es.isEmpty
  | c :: cs, es => match es with
    | e :: es => chkM k .v noE c e && chkFs k cs es
    | [] => false
def chkO (k : Ck) : Option CE → Option Expr → Bool
  | none, o => o.isNone
  | some c, o => match o with
    | some e => chkM k .v noE c e
    | none => false
def chkIfs (k : Ck) : List CE → List Expr → Bool
  | [], es => es.isEmpty
  | c :: cs, es => match es with
    | [e] => cs.isEmpty && chkM k .t noE c e
    | _ => false
end
end MP
end

section
set_option linter.all false
set_option autoImplicit false
set_option maxHeartbeats 4000000
set_option maxRecDepth 100000
namespace MP
open PySem L2 PyProof.Rows

structure CkOk (k : Ck) (X : Cx) : Prop where
  sc : X.env.scope = k.sc
  N : X.N = k.N
  fn : ∀ x, k.fn x = true → X.fn x = true
def isBoolE : Expr → Bool
  | .BoolOp _ _ _ => true
  | _ => false
section
variable {P : Prog} {Φ : Calls} {ca : String → Option Addr} {kk : Nat} {X : Cx} {W : WX} {k : Ck}
theorem vis_ok (h : CkOk k X) {x : Str} (q : visB k.sc x = true) : Vis X.env.scope x := by
  unfold visB at q
  rw [← h.sc] at q
  split at q
  · exact .inl (by assumption)
  · exact .inr (.inl (by assumption))
  · exact .inr (.inr (by assumption))
  · cases q
theorem loc_ok (h : CkOk k X) {x : Str} (q : locB k.sc x = true) : Loc X.env.scope x := by
  unfold locB at q
  rw [← h.sc] at q
  split at q
  · exact .inl (by assumption)
  · exact .inr (by assumption)
  · cases q
theorem gl_ok (h : CkOk k X) {x : Str} (q : glB k.sc x = true) : L2.Gl X x := by
  unfold glB at q
  rw [← h.sc] at q
  split at q
  · assumption
  · cases q
theorem local_ok (h : CkOk k X) {x : Str} (q : isLocal k.sc x = true) : X.env.scope.names.lookup x = some .local := by
  unfold isLocal at q
  rw [← h.sc] at q
  split at q
  · assumption
  · cases q
theorem dbg_ok {x : Str} (q : noDbg x = true) : (x == ("__debug__" : Str)) = false ∧ (x == ("__classdict__" : Str)) = false := by
  unfold noDbg at q
  rw [Bool.and_eq_true, Bool.not_eq_true', Bool.not_eq_true'] at q
  exact q
theorem gln_ok (h : CkOk k X) {x : String} {y : Str} (q : glN k x y = true) : y = nmS x ∧ L2.Gl X (nmS x) ∧ (nmS x == ("__debug__" : Str)) = false := by
  unfold glN at q
  simp only [Bool.and_eq_true, decide_eq_true_eq] at q
  obtain ⟨⟨rfl, q2⟩, q3⟩ := q
  exact ⟨rfl, gl_ok h q2, (dbg_ok q3).1⟩

def okM (P : Prog) (Φ : Calls) (ca : String → Option Addr) (X : Cx) (W : WX) (md : Md) (tg : Expr) (c : CE) (e : Expr) : Prop := match md with
  | .v => PE X e (tV P Φ ca X.K W c)
  | .t => PT X e (tT P Φ ca X.K W c) ∧ (isBoolE e = true → PW X e (tT P Φ ca X.K W c))
  | .i => PI X tg e (tI P Φ ca X.K W c)
theorem up {md : Md} {tg : Expr} {c : CE} {e : Expr} (hm : modeOk md e = true) (he : PE X e (tV P Φ ca X.K W c)) (ht : ∀ ρ st, evalM P Φ ρ .t c st = fin .t (evalM P Φ ρ .v c st)) (hi : ∀ ρ st, evalM P Φ ρ .i c st = fin .i (evalM P Φ ρ .v c st)) : okM P Φ ca X W md tg c e := by
  cases md with
  | v => exact he
  | t => exact ⟨t_plain he hm ht, fun q => by
      have hm : plainT e = true := hm
      cases e <;> first | (simp [plainT] at hm; done) | (simp [isBoolE] at q; done)⟩
  | i => exact i_val he hi
theorem s_frz {c : CE} {e : Expr} (he : PE X e (tV P Φ ca X.K W c)) : PE X e (tV P Φ ca X.K W (.frz c)) := he.imp fun σ H Q h => by
  obtain ⟨ex, ms, st, ρ, rs, sl, h⟩ := h
  simp only [evalM, fin_v] at h
  refine ⟨ex, ms, st, ρ, rs, sl, h.bd fun d st1 ms1 H1 v rs1 x1 r1 h1 => ?_⟩
  cases q : freeze d st1 with
  | stuck => rw [q] at h1; exact h1.elim
  | exn c' vs st' =>
    unfold freeze at q
    split at q
    · split at q <;> cases q
    · cases q
  | ok d' st' =>
    rw [q] at h1
    obtain ⟨r1', x1', v1'⟩ := freeze_ok rs1 r1 q
    exact h1 _ _ _ r1' x1' v1'

theorem cst_ok {d : D} {e : Expr} (h : cstB d e = true) : PE X e (tV P Φ ca X.K W (.cst d)) := by
  unfold cstB at h
  split at h
  · rw [decide_eq_true_eq] at h; subst h; exact s_int
  · rw [decide_eq_true_eq] at h; subst h; exact s_bl
  · rw [decide_eq_true_eq] at h; subst h; exact s_str
  · exact s_non
  · cases h
theorem tys_ok (h : CkOk k X) : ∀ {ts : List Ty} {es : List Expr}, tyNs k ts es = true → Paired (fun e t => ∃ pos, e = .Name (nmS (tyName t)) pos ∧ L2.Gl X (nmS (tyName t)) ∧ (nmS (tyName t) == ("__debug__" : Str)) = false) es ts
  | [], [], _ => .nil
  | [], _ :: _, q => by simp [tyNs] at q
  | _ :: _, [], q => by simp [tyNs] at q
  | t :: ts, e :: es, q => by
    simp only [tyNs, Bool.and_eq_true] at q
    refine .cons ?_ (tys_ok h q.2)
    have q1 := q.1
    unfold tyN at q1
    split at q1
    · obtain ⟨rfl, g1, g2⟩ := gln_ok h q1
      exact ⟨_, rfl, g1, g2⟩
    · cases q1
theorem ty_ok (h : CkOk k X) {ts : List Ty} {te : Expr} (q : tysB k ts te = true) : (∃ t pos', ts = [t] ∧ te = .Name (nmS (tyName t)) pos' ∧ L2.Gl X (nmS (tyName t)) ∧ (nmS (tyName t) == ("__debug__" : Str)) = false) ∨
      (∃ es j pos', ts ≠ [] ∧ te = .Tuple es j pos' ∧ ts.length ≤ 1000 ∧ Paired (fun e t => ∃ pos, e = .Name (nmS (tyName t)) pos ∧ L2.Gl X (nmS (tyName t)) ∧ (nmS (tyName t) == ("__debug__" : Str)) = false) es ts) := by
  unfold tysB at q
  split at q
  · split at q
    · obtain ⟨rfl, g1, g2⟩ := gln_ok h q
      exact .inl ⟨_, _, rfl, rfl, g1, g2⟩
    · cases q
  · simp only [Bool.and_eq_true, decide_eq_true_eq, Bool.not_eq_true'] at q
    refine .inr ⟨_, _, _, ?_, rfl, q.1.2, tys_ok h q.2⟩
    intro z
    rw [z] at q
    simp at q
  · cases q
mutual
theorem tg_ok (C : CtxOk ca P kk X W) (h : CkOk k X) : ∀ (t : Tg) {e : Expr}, chkTg k t e = true → PG X e (tG ca X.K t)
  | .var i, e, q => by
    unfold chkTg at q
    split at q
    · simp only [Bool.and_eq_true, decide_eq_true_eq, Bool.or_eq_true] at q
      exact g_var C.nd (by rw [h.N]; exact q.1.1) (loc_ok h q.1.2) (q.2.elim (fun z => .inl (h.fn _ z)) fun z => .inr (local_ok h z))
    · cases q
  | .tup ts, e, q => by
    unfold chkTg at q
    split at q
    · obtain ⟨g, hs, hl⟩ := tgs_ok C h ts q
      exact g_tup C.calm g hs hl
    · cases q
theorem tgs_ok (C : CtxOk ca P kk X W) (h : CkOk k X) : ∀ (ts : List Tg) {es : List Expr}, chkTgs k ts es = true → PGs X es (tGs ca X.K ts) ∧ es.all noStar = true ∧ ts.length = es.length
  | [], es, q => by
    unfold chkTgs at q
    rw [List.isEmpty_iff] at q
    subst q
    exact ⟨g_nil, rfl, rfl⟩
  | t :: ts, es, q => by
    unfold chkTgs at q
    split at q
    · simp only [Bool.and_eq_true] at q
      obtain ⟨g, hs, hl⟩ := tgs_ok C h ts q.2
      exact ⟨g_cons (tg_ok C h t q.1.2) g q.1.1, by rw [List.all_cons, q.1.1, hs]; rfl, by rw [List.length_cons, List.length_cons, hl]⟩
    · cases q
end
theorem CkOk.blk (h : CkOk k X) {s : Shared} {H : Hp} {scope : Scope} {C : Addr} {cl : List (Str × Addr)} {fp : List Addr} : CkOk (blkOf k scope) (X.blk s H scope (compEnvC scope cl C X.env) fp) where
  sc := by show relS scope X.env.scope = _; rw [h.sc]; rfl
  N := h.N
  fn := fun x q => q
theorem own_map {own : List Nat} : (ownOf k own).map (·.2) = own := by
  unfold ownOf
  rw [List.map_map]
  exact List.map_id _
theorem notSet_ok {it : Expr} {env : PySem.Env} (h : notSet it = true) : ∀ x, foldedSetIterable it env x = pure x := noSetFold (by
  cases it <;> first | trivial | (simp [notSet] at h))

theorem len1 {α : Type} {l : List α} (h : l.length = 1) : ∃ a, l = [a] := by
  match l, h with
  | [a], _ => exact ⟨a, rfl⟩
theorem len2 {α : Type} {l : List α} (h : l.length = 2) : ∃ a b, l = [a, b] := by
  match l, h with
  | [a, b], _ => exact ⟨a, b, rfl⟩
theorem len3 {α : Type} {l : List α} (h : l.length = 3) : ∃ a b c, l = [a, b, c] := by
  match l, h with
  | [a, b, c], _ => exact ⟨a, b, c, rfl⟩
theorem isNil {α : Type} {l : List α} (h : l.isEmpty = true) : l = [] := List.isEmpty_iff.mp h


theorem prim_any (C : CtxOk ca P kk X W) {p : Prim} {es : List Expr} {cs : List CE} {pp pos : Pos} (hg : L2.Gl X (nmS (primN p))) (hm : X.mg (nmS (primN p)) = none) (hne : es.isEmpty = false) (ha : PA X es (tAs P Φ ca X.K W cs)) (hs : es.all noStar = true) :
    PE X (.Call (.Name (nmS (primN p)) pp) es [] pos) (tV P Φ ca X.K W (.prim p cs)) := by
  cases es with
  | nil => simp at hne
  | cons e es => exact s_prim C hg hm ha hs
theorem meth_any {m : MP.Meth} (ok : methOk m = true) {o : Expr} {es : List Expr} {c : CE} {cs : List CE} {apos pos : Pos} (ho : PE X o (tV P Φ ca X.K W c)) (ha : PA X es (tAs P Φ ca X.K W cs)) (hn : noSup o = true) (hs : es.all noStar = true) (hl : es.length < 30) (hline : (apos.endLine == pos.line) = true) (hlen : cs.length = es.length) :
    PE X (.Call (.Attribute o (nmS (methN m)) apos) es [] pos) (tV P Φ ca X.K W (.meth m c cs)) := by
  cases es with
  | nil =>
    cases cs with
    | nil => exact s_meth0 ok ho hn hline
    | cons c cs => simp at hlen
  | cons e es => exact s_meth ok ho ha hn hs hl hline
theorem call_any (C : CtxOk ca P kk X W) (G : GOk ca P X.prog X.w X.K X.mg X.base Φ kk) {f : String} {es : List Expr} {cs : List CE} {p pos : Pos} (hg : L2.Gl X (nmS f)) (hd : (nmS f == ("__debug__" : Str)) = false) (ha : PA X es (tAs P Φ ca X.K W cs)) (hs : es.all noStar = true) (hlen : cs.length = es.length) :
    PE X (.Call (.Name (nmS f) p) es [] pos) (tV P Φ ca X.K W (.call f cs)) := by
  cases es with
  | nil =>
    cases cs with
    | nil => exact s_call0 C G hg hd
    | cons c cs => simp at hlen
  | cons e es => exact s_call C G hg hd ha hs
theorem new_any (C : CtxOk ca P kk X W) (G : GOk ca P X.prog X.w X.K X.mg X.base Φ kk) {f : String} {m : Bool} {es : List Expr} {cs : List CE} {p pos : Pos} (hg : L2.Gl X (nmS f)) (hd : (nmS f == ("__debug__" : Str)) = false) (ha : PA X es (tAs P Φ ca X.K W cs)) (hs : es.all noStar = true) (hlen : cs.length = es.length) :
    PE X (.Call (.Name (nmS f) p) es [] pos) (tV P Φ ca X.K W (.new f m cs)) := by
  cases es with
  | nil =>
    cases cs with
    | nil => exact s_new0 C G hg hd
    | cons c cs => simp at hlen
  | cons e es => exact s_new C G hg hd ha hs
theorem ometh_any (C : CtxOk ca P kk X W) (G : GOk ca P X.prog X.w X.K X.mg X.base Φ kk) {m : String} {o : Expr} {es : List Expr} {c : CE} {cs : List CE} {apos pos : Pos} (ho : PE X o (tV P Φ ca X.K W c)) (ha : PA X es (tAs P Φ ca X.K W cs)) (hn : noSup o = true) (hs : es.all noStar = true)
    (hl : es.length < 30) (hline : (apos.endLine == pos.line) = true) (hlen : cs.length = es.length) : PE X (.Call (.Attribute o (nmS m) apos) es [] pos) (tV P Φ ca X.K W (.ometh c m cs)) := by
  cases es with
  | nil =>
    cases cs with
    | nil => exact s_ometh0 C G ho hn hline
    | cons c cs => simp at hlen
  | cons e es => exact s_ometh C G ho ha hn hs hl hline
theorem fstr_any {es : List Expr} {cs : List CE} {pos : Pos} (h : Paired (fun e c => PE X e (tV P Φ ca X.K W c)) es cs) (hl : 2 ≤ es.length) : PE X (.JoinedStr es pos) (tV P Φ ca X.K W (.fstr cs)) := by
  match es, hl, h with
  | e1 :: e2 :: es, _, h => exact s_fstr h
theorem call_md {md : Md} {f : String} {cs : List CE} {ρ : MP.Env} {st : Store} : evalM P Φ ρ md (.call f cs) st = fin md (evalM P Φ ρ .v (.call f cs) st) := by
  simp only [evalM]
  split
  · rfl
  · cases md <;> rfl
theorem new_md {md : Md} {f : String} {m : Bool} {cs : List CE} {ρ : MP.Env} {st : Store} : evalM P Φ ρ md (.new f m cs) st = fin md (evalM P Φ ρ .v (.new f m cs) st) := by
  simp only [evalM]
  split
  · rfl
  · cases md <;> rfl
theorem never_v {e : Expr} : PE X e (tV P Φ ca X.K W .never) := PE.no.imp fun σ H Q h => by
  obtain ⟨ex, ms, st, ρ, rs, sl, h⟩ := h
  simp only [evalM] at h
  exact h
theorem never_t {σ : L2.St} {H : Hp} {Q : Bool → Hp → Prop} {K : PySem.W.Frag} (h : tT P Φ ca K W .never σ H Q) : False := by
  obtain ⟨ex, ms, st, ρ, rs, sl, h⟩ := h
  simp only [evalM] at h
  exact h
theorem never_i {σ : L2.St} {H : Hp} {R : It → Hp → Prop} {K : PySem.W.Frag} (h : tI P Φ ca K W .never σ H R) : False := by
  obtain ⟨ex, ms, st, ρ, rs, sl, h⟩ := h
  simp only [evalM] at h
  exact h
theorem newK_md {md : Md} {f : String} {m : Bool} {cs kcs : List CE} {ks : List String} {pm : List Nat} {ρ : MP.Env} {st : Store} : evalM P Φ ρ md (.newK f m cs ks pm kcs) st = fin md (evalM P Φ ρ .v (.newK f m cs ks pm kcs) st) := by
  simp only [evalM]
  split
  · split
    · rfl
    · cases md <;> rfl
  · cases md <;> rfl
theorem callK_md {md : Md} {f : String} {cs kcs : List CE} {ks : List String} {pm : List Nat} {ρ : MP.Env} {st : Store} : evalM P Φ ρ md (.callK f cs ks pm kcs) st = fin md (evalM P Φ ρ .v (.callK f cs ks pm kcs) st) := by
  simp only [evalM]
  split
  · rfl
  · cases md <;> rfl
theorem isi_md {md : Md} {a : CE} {ts : List Ty} {ρ : MP.Env} {st : Store} : evalM P Φ ρ md (.isi a ts) st = fin md (evalM P Φ ρ .v (.isi a ts) st) := by
  simp only [evalM]
  split
  · rfl
  · cases md <;> rfl

theorem lc_any (C : CtxOk ca P kk X W) (h : CkOk k X) {m : Bool} {own : List Nat} {elt it : CE} {t : Tg} {ifs : List CE} {x : Expr} {g : Comprehension} {scope : Scope} {pos : Pos} (h1 : g.is_async = 0) (h2 : notSet g.iter = true) (h3 : PI X g.target g.iter (tI P Φ ca X.K W it)) (h4 : blkC k.N k.sc scope (ownOf k own) = true) (h5 : (t.vars.all fun i => own.contains i) = true)
    (h6 : chkTg (blkOf k scope) t g.target = true) (h7 : ∀ (s : Shared) (H : Hp) (C : Addr) (cl : List (Str × Addr)) (fp : List Addr), PTs (X.blk s H scope (compEnvC scope cl C X.env) fp) g.ifs (tTs P Φ ca X.K noW ifs))
    (h8 : ∀ (s : Shared) (H : Hp) (C : Addr) (cl : List (Str × Addr)) (fp : List Addr), PE (X.blk s H scope (compEnvC scope cl C X.env) fp) x (tV P Φ ca X.K noW elt)) : PE X (.ListComp x [g] scope pos) (tV P Φ ca X.K W (.lc m own elt t it ifs)) := by
  obtain ⟨tgt, iter, ifs', asy⟩ := g
  dsimp only at h1 h2 h3 h6 h7
  subst h1
  have bk : BlkOk X.N X.env.scope scope (ownOf k own) := by
    have := blkOk_by h4
    rw [← h.N, ← h.sc] at this
    exact this
  rw [List.all_eq_true] at h5
  rw [← own_map (k := k) (own := own)]
  exact s_lc C.calm C.nd h3 bk (fun i hi => by rw [own_map]; exact List.contains_iff_mem.mp (h5 i hi)) (fun s H Cc cl fp => tg_ok C.blk h.blk t h6) h7 h8 (notSet_ok h2)
mutual
theorem chks_len : ∀ (cs : List CE) {es : List Expr}, chkEs k cs es = true → cs.length = es.length
  | [], es, q => by
    unfold chkEs at q
    cases isNil q
    rfl
  | c :: cs, es, q => by
    unfold chkEs at q
    split at q
    · simp only [Bool.and_eq_true] at q
      rw [List.length_cons, List.length_cons, chks_len cs q.2]
    · cases q
end
mutual
theorem chk_ok : ∀ (c : CE) {X : Cx} {W : WX} {k : Ck} (C : CtxOk ca P kk X W) (G : GOk ca P X.prog X.w X.K X.mg X.base Φ kk) (h : CkOk k X) (md : Md) (tg : Expr) {e : Expr}, chkM k md tg c e = true → okM P Φ ca X W md tg c e
  | .var i, X, W, k, C, G, h, md, tg, e, q => by
    unfold chkM at q
    rw [Bool.and_eq_true] at q
    refine up q.1 ?_ (fun _ _ => rfl) (fun _ _ => rfl)
    have q := q.2
    split at q
    · simp only [Bool.and_eq_true, decide_eq_true_eq] at q
      exact s_var (by rw [h.N]; exact q.1.1) (vis_ok h q.1.2) (dbg_ok q.2).1 (dbg_ok q.2).2
    · cases q
  | .gc x, X, W, k, C, G, h, md, tg, e, q => by
    unfold chkM at q
    rw [Bool.and_eq_true] at q
    refine up q.1 ?_ (fun _ _ => rfl) (fun _ _ => rfl)
    have q := q.2
    split at q
    · obtain ⟨rfl, g1, g2⟩ := gln_ok h q
      exact s_gc C g1 g2
    · cases q
  | .cst d, X, W, k, C, G, h, md, tg, e, q => by
    unfold chkM at q
    rw [Bool.and_eq_true] at q
    exact up q.1 (cst_ok q.2) (fun _ _ => rfl) (fun _ _ => rfl)
  | .bin o a b, X, W, k, C, G, h, md, tg, e, q => by
    unfold chkM at q
    rw [Bool.and_eq_true] at q
    refine up q.1 ?_ (fun _ _ => rfl) (fun _ _ => rfl)
    have q := q.2
    split at q
    · simp only [Bool.and_eq_true, decide_eq_true_eq] at q
      obtain ⟨⟨rfl, q1⟩, q2⟩ := q
      exact s_bin (chk_ok a C G h .v noE q1) (chk_ok b C G h .v noE q2)
    · cases q
  | .neg a, X, W, k, C, G, h, md, tg, e, q => by
    unfold chkM at q
    rw [Bool.and_eq_true] at q
    refine up q.1 ?_ (fun _ _ => rfl) (fun _ _ => rfl)
    have q := q.2
    split at q
    · simp only [Bool.and_eq_true, decide_eq_true_eq] at q
      obtain ⟨rfl, q1⟩ := q
      exact s_neg (chk_ok a C G h .v noE q1)
    · cases q
  | .cmp o a b, X, W, k, C, G, h, md, tg, e, q => by
    unfold chkM at q
    split at q
    · split at q
      · simp only [Bool.and_eq_true, decide_eq_true_eq, Bool.not_eq_true'] at q
        obtain ⟨⟨⟨rfl, q0⟩, q1⟩, q2⟩ := q
        have e1 := chk_ok a C G h .v noE q1
        have e2 := chk_ok b C G h .v noE q2
        cases md with
        | v => exact s_cmp C e1 e2 q0
        | t => exact ⟨t_cmp C e1 e2 q0, fun z => by simp [isBoolE] at z⟩
        | i => exact i_val (s_cmp C e1 e2 q0) (fun _ _ => rfl)
      · cases q
    · cases q
  | .chain o o' a b c, X, W, k, C, G, h, md, tg, e, q => by
    unfold chkM at q
    split at q
    · split at q
      · simp only [Bool.and_eq_true, decide_eq_true_eq, Bool.not_eq_true'] at q
        obtain ⟨⟨⟨⟨⟨rfl, rfl⟩, q0⟩, q1⟩, q2⟩, q3⟩ := q
        have e1 := chk_ok a C G h .v noE q1
        have e2 := chk_ok b C G h .v noE q2
        have e3 := chk_ok c C G h .v noE q3
        cases md with
        | v => exact s_chain C e1 e2 e3 q0
        | t => exact ⟨t_chain C e1 e2 e3 q0, fun z => by simp [isBoolE] at z⟩
        | i => exact i_val (s_chain C e1 e2 e3 q0) (fun _ _ => rfl)
      · cases q
    · cases q
  | .and a b, X, W, k, C, G, h, md, tg, e, q => by
    unfold chkM at q
    split at q
    · split at q
      · simp only [Bool.and_eq_true, decide_eq_true_eq] at q
        obtain ⟨⟨rfl, q1⟩, q2⟩ := q
        have e1 := chk_ok a C G h (subMd md) noE q1
        have e2 := chk_ok b C G h (subMd md) noE q2
        cases md with
        | v => exact s_and e1 (pe_one e2)
        | t => exact ⟨(t_and e1.1 (pw_and1 e2.1)).pt, fun _ => t_and e1.1 (pw_and1 e2.1)⟩
        | i => exact i_val (s_and e1 (pe_one e2)) (fun _ _ => rfl)
      · simp only [Bool.and_eq_true, decide_eq_true_eq] at q
        obtain ⟨⟨rfl, q1⟩, q2⟩ := q
        have e1 := chk_ok a C G h (subMd md) noE q1
        have e2 := chk_ok b C G h (subMd md) noE q2
        cases md with
        | v => exact s_and e1 e2
        | t => exact ⟨(t_and e1.1 (e2.2 rfl)).pt, fun _ => t_and e1.1 (e2.2 rfl)⟩
        | i => exact i_val (s_and e1 e2) (fun _ _ => rfl)
      · cases q
    · cases q
  | .or a b, X, W, k, C, G, h, md, tg, e, q => by
    unfold chkM at q
    split at q
    · split at q
      · simp only [Bool.and_eq_true, decide_eq_true_eq] at q
        obtain ⟨⟨rfl, q1⟩, q2⟩ := q
        have e1 := chk_ok a C G h (subMd md) noE q1
        have e2 := chk_ok b C G h (subMd md) noE q2
        cases md with
        | v => exact s_or e1 (pe_one e2)
        | t => exact ⟨(t_or e1.1 (pw_or1 e2.1)).pt, fun _ => t_or e1.1 (pw_or1 e2.1)⟩
        | i => exact i_val (s_or e1 (pe_one e2)) (fun _ _ => rfl)
      · simp only [Bool.and_eq_true, decide_eq_true_eq] at q
        obtain ⟨⟨rfl, q1⟩, q2⟩ := q
        have e1 := chk_ok a C G h (subMd md) noE q1
        have e2 := chk_ok b C G h (subMd md) noE q2
        cases md with
        | v => exact s_or e1 e2
        | t => exact ⟨(t_or e1.1 (e2.2 rfl)).pt, fun _ => t_or e1.1 (e2.2 rfl)⟩
        | i => exact i_val (s_or e1 e2) (fun _ _ => rfl)
      · cases q
    · cases q
  | .not a, X, W, k, C, G, h, md, tg, e, q => by
    unfold chkM at q
    split at q
    · simp only [Bool.and_eq_true, decide_eq_true_eq] at q
      obtain ⟨rfl, q1⟩ := q
      have e1 := chk_ok a C G h (subMd md) noE q1
      cases md with
      | v => exact s_not e1
      | t => exact ⟨t_not e1.1, fun z => by simp [isBoolE] at z⟩
      | i => exact i_val (s_not e1) (fun _ _ => rfl)
    · cases q
  | .ite t a b, X, W, k, C, G, h, md, tg, e, q => by
    unfold chkM at q
    rw [Bool.and_eq_true] at q
    refine up q.1 ?_ (fun _ _ => rfl) (fun _ _ => rfl)
    have q := q.2
    split at q
    · simp only [Bool.and_eq_true] at q
      exact s_ite (chk_ok t C G h .t noE q.1.1).1 (chk_ok a C G h .v noE q.1.2) (chk_ok b C G h .v noE q.2)
    · cases q
  | .tup cs, X, W, k, C, G, h, md, tg, e, q => by
    unfold chkM at q
    rw [Bool.and_eq_true] at q
    refine up q.1 ?_ (fun _ _ => rfl) (fun _ _ => rfl)
    have q := q.2
    split at q
    · exact s_tup (chks_ok cs C G h q).1
    · cases q
  | .lst m cs, X, W, k, C, G, h, md, tg, e, q => by
    unfold chkM at q
    rw [Bool.and_eq_true] at q
    refine up q.1 ?_ (fun _ _ => rfl) (fun _ _ => rfl)
    have q := q.2
    split at q
    · exact s_lst (chks_ok cs C G h q).1
    · cases q
  | .item a b, X, W, k, C, G, h, md, tg, e, q => by
    unfold chkM at q
    rw [Bool.and_eq_true] at q
    refine up q.1 ?_ (fun _ _ => rfl) (fun _ _ => rfl)
    have q := q.2
    split at q
    · simp only [Bool.and_eq_true] at q
      exact s_item C (chk_ok a C G h .v noE q.1.2) (chk_ok b C G h .v noE q.2) q.1.1
    · cases q
  | .sl a lo hi, X, W, k, C, G, h, md, tg, e, q => by
    unfold chkM at q
    rw [Bool.and_eq_true] at q
    refine up q.1 ?_ (fun _ _ => rfl) (fun _ _ => rfl)
    have q := q.2
    split at q
    · split at q
      · simp only [Bool.and_eq_true, Option.isNone_iff_eq_none] at q
        obtain ⟨⟨⟨rfl, q1⟩, q2⟩, q3⟩ := q
        exact s_sl (chk_ok a C G h .v noE q1) (chko_ok lo C G h q2) (chko_ok hi C G h q3)
      · cases q
    · cases q
  | .prim p cs, X, W, k, C, G, h, md, tg, e, q => by
    unfold chkM at q
    rw [Bool.and_eq_true] at q
    refine up q.1 ?_ (fun _ _ => rfl) (fun _ _ => rfl)
    have q := q.2
    split at q
    · split at q
      · simp only [Bool.and_eq_true, decide_eq_true_eq, Bool.not_eq_true'] at q
        obtain ⟨⟨⟨⟨q1, q2⟩, q3⟩, q4⟩, q5⟩ := q
        obtain ⟨rfl, g1, g2⟩ := gln_ok h q1
        cases isNil q3
        obtain ⟨pa, hs⟩ := chks_ok cs C G h q5
        exact prim_any C g1 (G.blt _ q2) q4 pa hs
      · cases q
    · cases q
  | .meth m o cs, X, W, k, C, G, h, md, tg, e, q => by
    unfold chkM at q
    rw [Bool.and_eq_true] at q
    refine up q.1 ?_ (fun _ _ => rfl) (fun _ _ => rfl)
    have q := q.2
    split at q
    · split at q
      · simp only [Bool.and_eq_true, decide_eq_true_eq] at q
        obtain ⟨⟨⟨⟨⟨⟨⟨q1, rfl⟩, q2⟩, q3⟩, q4⟩, q5⟩, q6⟩, q7⟩ := q
        cases isNil q5
        obtain ⟨pa, hs⟩ := chks_ok cs C G h q7
        have eo := chk_ok o C G h .v noE q6
        exact meth_any q1 eo pa q2 hs q4 q3 (chks_len cs q7)
      · cases q
    · cases q
  | .call g cs, X, W, k, C, G, h, md, tg, e, q => by
    unfold chkM at q
    rw [Bool.and_eq_true] at q
    refine up q.1 ?_ (fun _ _ => call_md) (fun _ _ => call_md)
    have q := q.2
    split at q
    · split at q
      · simp only [Bool.and_eq_true] at q
        obtain ⟨⟨q1, q3⟩, q5⟩ := q
        obtain ⟨rfl, g1, g2⟩ := gln_ok h q1
        cases isNil q3
        obtain ⟨pa, hs⟩ := chks_ok cs C G h q5
        exact call_any C G g1 g2 pa hs (chks_len cs q5)
      · cases q
    · cases q
  | .new c m cs, X, W, k, C, G, h, md, tg, e, q => by
    unfold chkM at q
    rw [Bool.and_eq_true] at q
    refine up q.1 ?_ (fun _ _ => new_md) (fun _ _ => new_md)
    have q := q.2
    split at q
    · split at q
      · simp only [Bool.and_eq_true] at q
        obtain ⟨⟨q1, q3⟩, q5⟩ := q
        obtain ⟨rfl, g1, g2⟩ := gln_ok h q1
        cases isNil q3
        obtain ⟨pa, hs⟩ := chks_ok cs C G h q5
        exact new_any C G g1 g2 pa hs (chks_len cs q5)
      · cases q
    · cases q
  | .ometh o m cs, X, W, k, C, G, h, md, tg, e, q => by
    unfold chkM at q
    rw [Bool.and_eq_true] at q
    refine up q.1 ?_ (fun _ _ => rfl) (fun _ _ => rfl)
    have q := q.2
    split at q
    · split at q
      · simp only [Bool.and_eq_true, decide_eq_true_eq] at q
        obtain ⟨⟨⟨⟨⟨⟨rfl, q2⟩, q3⟩, q4⟩, q5⟩, q6⟩, q7⟩ := q
        cases isNil q5
        obtain ⟨pa, hs⟩ := chks_ok cs C G h q7
        have eo := chk_ok o C G h .v noE q6
        exact ometh_any C G eo pa q2 hs q4 q3 (chks_len cs q7)
      · cases q
    · cases q
  | .attr o f, X, W, k, C, G, h, md, tg, e, q => by
    unfold chkM at q
    rw [Bool.and_eq_true] at q
    refine up q.1 ?_ (fun _ _ => rfl) (fun _ _ => rfl)
    have q := q.2
    split at q
    · simp only [Bool.and_eq_true, decide_eq_true_eq] at q
      obtain ⟨⟨rfl, q2⟩, q3⟩ := q
      exact s_attr C G (chk_ok o C G h .v noE q3) q2
    · cases q
  | .lc m own elt t it ifs, X, W, k, C, G, h, md, tg, e, q => by
    unfold chkM at q
    rw [Bool.and_eq_true] at q
    refine up q.1 ?_ (fun _ _ => rfl) (fun _ _ => rfl)
    have q := q.2
    split at q
    · split at q
      · simp only [Bool.and_eq_true, decide_eq_true_eq] at q
        obtain ⟨⟨⟨⟨⟨⟨⟨q1, q2⟩, q3⟩, q4⟩, q5⟩, q6⟩, q7⟩, q8⟩ := q
        exact lc_any C h q1 q2 (chk_ok it C G h .i _ q3) q4 q5 q6 (fun s H Cc cl fp => ifs_ok ifs C.blk G h.blk q7) (fun s H Cc cl fp => chk_ok elt C.blk G h.blk .v noE q8)
      · cases q
    · cases q
  | .isi a ts, X, W, k, C, G, h, md, tg, e, q => by
    unfold chkM at q
    rw [Bool.and_eq_true] at q
    refine up q.1 ?_ (fun _ _ => isi_md) (fun _ _ => isi_md)
    have q := q.2
    split at q
    · split at q
      · split at q
        · simp only [Bool.and_eq_true] at q
          obtain ⟨⟨⟨⟨q1, q2⟩, q3⟩, q4⟩, q5⟩ := q
          obtain ⟨rfl, g1, g2⟩ := gln_ok h q1
          cases isNil q2
          exact s_isi C G g1 (chk_ok a C G h .v noE q5) q3 (ty_ok h q4)
        · cases q
      · cases q
    · cases q
  | .fstr cs, X, W, k, C, G, h, md, tg, e, q => by
    unfold chkM at q
    rw [Bool.and_eq_true] at q
    refine up q.1 ?_ (fun _ _ => rfl) (fun _ _ => rfl)
    have q := q.2
    split at q
    · simp only [Bool.and_eq_true, decide_eq_true_eq] at q
      exact fstr_any (chkf_ok cs C G h q.2) q.1
    · cases q
  | .fmt a, X, W, k, C, G, h, md, tg, e, q => by
    unfold chkM at q
    rw [Bool.and_eq_true] at q
    refine up q.1 ?_ (fun _ _ => rfl) (fun _ _ => rfl)
    have q := q.2
    split at q
    · simp only [Bool.and_eq_true, decide_eq_true_eq, Option.isNone_iff_eq_none] at q
      obtain ⟨⟨rfl, rfl⟩, q1⟩ := q
      exact s_fmt (chk_ok a C G h .v noE q1)
    · cases q
  | .frz a, X, W, k, C, G, h, md, tg, e, q => by
    unfold chkM at q
    rw [Bool.and_eq_true] at q
    exact up q.1 (s_frz (chk_ok a C G h .v noE q.2)) (fun _ _ => rfl) (fun _ _ => rfl)
  | .never, X, W, k, C, G, h, md, tg, e, q => by
    cases md with
    | v => exact never_v
    | t => exact ⟨⟨fun pins s σ H Q I q => (never_t q).elim⟩, fun _ => ⟨fun wh pins s σ H Q I q => (never_t q).elim⟩⟩
    | i => exact ⟨fun pins s σ H R I q => (never_i q).elim⟩
  | .dct0, X, W, k, C, G, h, md, tg, e, q => by
    unfold chkM at q
    rw [Bool.and_eq_true] at q
    refine up q.1 ?_ (fun _ _ => rfl) (fun _ _ => rfl)
    have q := q.2
    split at q
    · rw [Bool.and_eq_true] at q
      cases isNil q.1
      cases isNil q.2
      exact s_dct0
    · cases q
  | .newK c m cs ks pm kcs, X, W, k, C, G, h, md, tg, e, q => by
    unfold chkM at q
    rw [Bool.and_eq_true] at q
    refine up q.1 ?_ (fun _ _ => newK_md) (fun _ _ => newK_md)
    have q := q.2
    split at q
    · split at q
      · simp only [Bool.and_eq_true, decide_eq_true_eq] at q
        obtain ⟨⟨⟨⟨q1, q2⟩, q3⟩, q4⟩, q5⟩ := q
        obtain ⟨rfl, g1, g2⟩ := gln_ok h q1
        obtain ⟨pa, hs⟩ := chks_ok cs C G h q4
        exact s_newK C G g1 g2 pa hs (chks_len cs q4) (chkk_ok kcs C G h q5) q2 q3
      · cases q
    · cases q
  | .callK g cs ks pm kcs, X, W, k, C, G, h, md, tg, e, q => by
    unfold chkM at q
    rw [Bool.and_eq_true] at q
    refine up q.1 ?_ (fun _ _ => callK_md) (fun _ _ => callK_md)
    have q := q.2
    split at q
    · split at q
      · simp only [Bool.and_eq_true, decide_eq_true_eq] at q
        obtain ⟨⟨⟨⟨q1, q2⟩, q3⟩, q4⟩, q5⟩ := q
        obtain ⟨rfl, g1, g2⟩ := gln_ok h q1
        obtain ⟨pa, hs⟩ := chks_ok cs C G h q4
        exact s_callK C G g1 g2 pa hs (chks_len cs q4) (chkk_ok kcs C G h q5) q2 q3
      · cases q
    · cases q
  | .oeq ng a b, X, W, k, C, G, h, md, tg, e, q => by
    unfold chkM at q
    split at q
    · split at q
      · simp only [Bool.and_eq_true, decide_eq_true_eq, Bool.not_eq_true'] at q
        obtain ⟨⟨⟨rfl, q0⟩, q1⟩, q2⟩ := q
        have e1 := chk_ok a C G h .v noE q1
        have e2 := chk_ok b C G h .v noE q2
        cases md with
        | v => exact s_oeq C G e1 e2 q0
        | t => exact ⟨t_oeq C G e1 e2 q0, fun z => by simp [isBoolE] at z⟩
        | i => exact i_val (s_oeq C G e1 e2 q0) (fun _ _ => rfl)
      · cases q
    · cases q
  | .ostr a, X, W, k, C, G, h, md, tg, e, q => by
    unfold chkM at q
    rw [Bool.and_eq_true] at q
    refine up q.1 ?_ (fun _ _ => rfl) (fun _ _ => rfl)
    have q := q.2
    split at q
    · split at q
      · split at q
        · simp only [Bool.and_eq_true] at q
          obtain ⟨⟨⟨q1, q2⟩, q3⟩, q4⟩ := q
          obtain ⟨rfl, g1, g2⟩ := gln_ok h q1
          cases isNil q2
          exact s_ostr C G g1 (chk_ok a C G h .v noE q4) q3
        · cases q
      · cases q
    · cases q
  | .orepr a, X, W, k, C, G, h, md, tg, e, q => by
    unfold chkM at q
    rw [Bool.and_eq_true] at q
    refine up q.1 ?_ (fun _ _ => rfl) (fun _ _ => rfl)
    have q := q.2
    split at q
    · split at q
      · split at q
        · simp only [Bool.and_eq_true] at q
          obtain ⟨⟨⟨q1, q2⟩, q3⟩, q4⟩ := q
          obtain ⟨rfl, g1, g2⟩ := gln_ok h q1
          cases isNil q2
          exact s_orepr C G g1 (chk_ok a C G h .v noE q4) q3
        · cases q
      · cases q
    · cases q
  | .obool a, X, W, k, C, G, h, md, tg, e, q => by
    unfold chkM at q
    rw [Bool.and_eq_true] at q
    refine up q.1 ?_ (fun _ _ => rfl) (fun _ _ => rfl)
    have q := q.2
    split at q
    · split at q
      · split at q
        · simp only [Bool.and_eq_true] at q
          obtain ⟨⟨⟨q1, q2⟩, q3⟩, q4⟩ := q
          obtain ⟨rfl, g1, g2⟩ := gln_ok h q1
          cases isNil q2
          exact s_obool C G g1 (chk_ok a C G h .v noE q4) q3
        · cases q
      · cases q
    · cases q
  | .rng cs, X, W, k, C, G, h, md, tg, e, q => by
    unfold chkM at q
    split at q
    · split at q
      · simp only [Bool.and_eq_true, Bool.or_eq_true, decide_eq_true_eq] at q
        obtain ⟨⟨⟨q1, q2⟩, q3⟩, q4⟩ := q
        obtain ⟨rfl, g1, g2⟩ := gln_ok h q1
        cases isNil q2
        obtain ⟨pa, hs⟩ := chks_ok cs C G h q4
        have hl := chks_len cs q4
        rcases q3 with q3 | q3
        · obtain ⟨e1, rfl⟩ := len1 q3
          obtain ⟨c1, rfl⟩ := len1 (hl.trans q3)
          exact i_rng1 g1 (G.blt "range" (by decide)) pa (by simpa using hs)
        · obtain ⟨e1, e2, rfl⟩ := len2 q3
          obtain ⟨c1, c2, rfl⟩ := len2 (hl.trans q3)
          simp only [List.all_cons, List.all_nil, Bool.and_true, Bool.and_eq_true] at hs
          exact i_rng2 g1 (G.blt "range" (by decide)) pa hs.1 hs.2
      · cases q
    · cases q
  | .enu cs, X, W, k, C, G, h, md, tg, e, q => by
    unfold chkM at q
    split at q
    · split at q
      · simp only [Bool.and_eq_true, decide_eq_true_eq] at q
        obtain ⟨⟨⟨⟨q0, q1⟩, q2⟩, q3⟩, q4⟩ := q
        obtain ⟨rfl, g1, g2⟩ := gln_ok h q1
        cases isNil q2
        obtain ⟨pa, hs⟩ := chks_ok cs C G h q4
        have hl := chks_len cs q4
        obtain ⟨e1, rfl⟩ := len1 q3
        cases tg <;> first | (simp [isTupE] at q0; done) | exact i_enu g1 (G.blt "enumerate" (by decide)) pa (by simpa using hs) (hl.trans q3)
      · cases q
    · cases q
  | .zip cs, X, W, k, C, G, h, md, tg, e, q => by
    unfold chkM at q
    split at q
    · split at q
      · simp only [Bool.and_eq_true, Bool.or_eq_true, decide_eq_true_eq] at q
        obtain ⟨⟨⟨⟨q0, q1⟩, q2⟩, q3⟩, q4⟩ := q
        obtain ⟨rfl, g1, g2⟩ := gln_ok h q1
        cases isNil q2
        obtain ⟨pa, hs⟩ := chks_ok cs C G h q4
        have hl := chks_len cs q4
        rcases q3 with q3 | q3
        · obtain ⟨e1, e2, rfl⟩ := len2 q3
          simp only [List.all_cons, List.all_nil, Bool.and_true, Bool.and_eq_true] at hs
          cases tg <;> first | (simp [isTupE] at q0; done) | exact i_zip2 g1 (G.blt "zip" (by decide)) pa hs.1 hs.2 (hl.trans q3)
        · obtain ⟨e1, e2, e3, rfl⟩ := len3 q3
          simp only [List.all_cons, List.all_nil, Bool.and_true, Bool.and_eq_true] at hs
          cases tg <;> first | (simp [isTupE] at q0; done) | exact i_zip3 g1 (G.blt "zip" (by decide)) pa hs.1 hs.2.1 hs.2.2 (hl.trans q3)
      · cases q
    · cases q
theorem chks_ok : ∀ (cs : List CE) {X : Cx} {W : WX} {k : Ck} (C : CtxOk ca P kk X W) (G : GOk ca P X.prog X.w X.K X.mg X.base Φ kk) (h : CkOk k X) {es : List Expr}, chkEs k cs es = true → PA X es (tAs P Φ ca X.K W cs) ∧ es.all noStar = true
  | [], X, W, k, C, G, h, es, q => by
    unfold chkEs at q
    cases isNil q
    exact ⟨s_nil, rfl⟩
  | c :: cs, X, W, k, C, G, h, es, q => by
    unfold chkEs at q
    split at q
    · simp only [Bool.and_eq_true] at q
      obtain ⟨⟨q1, q2⟩, q3⟩ := q
      obtain ⟨pa, hs⟩ := chks_ok cs C G h q3
      exact ⟨s_cons (chk_ok c C G h .v noE q2) pa q1, by rw [List.all_cons, q1, hs]; rfl⟩
    · cases q
theorem chkk_ok : ∀ (cs : List CE) {X : Cx} {W : WX} {k : Ck} (C : CtxOk ca P kk X W) (G : GOk ca P X.prog X.w X.K X.mg X.base Φ kk) (h : CkOk k X) {kws : List Keyword}, chkKs k cs kws = true → PK X kws (tAs P Φ ca X.K W cs)
  | [], X, W, k, C, G, h, kws, q => by
    unfold chkKs at q
    cases isNil q
    exact k_nil
  | c :: cs, X, W, k, C, G, h, kws, q => by
    unfold chkKs at q
    split at q
    · rename_i w kws
      simp only [Bool.and_eq_true] at q
      obtain ⟨nm, ev, kp⟩ := w
      exact k_cons (chk_ok c C G h .v noE q.1) (chkk_ok cs C G h q.2)
    · cases q
theorem chkf_ok : ∀ (cs : List CE) {X : Cx} {W : WX} {k : Ck} (C : CtxOk ca P kk X W) (G : GOk ca P X.prog X.w X.K X.mg X.base Φ kk) (h : CkOk k X) {es : List Expr}, chkFs k cs es = true → Paired (fun e c => PE X e (tV P Φ ca X.K W c)) es cs
  | [], X, W, k, C, G, h, es, q => by
    unfold chkFs at q
    cases isNil q
    exact .nil
  | c :: cs, X, W, k, C, G, h, es, q => by
    unfold chkFs at q
    split at q
    · simp only [Bool.and_eq_true] at q
      exact .cons (chk_ok c C G h .v noE q.1) (chkf_ok cs C G h q.2)
    · cases q
theorem chko_ok : ∀ (c : Option CE) {X : Cx} {W : WX} {k : Ck} (C : CtxOk ca P kk X W) (G : GOk ca P X.prog X.w X.K X.mg X.base Φ kk) (h : CkOk k X) {e : Option Expr}, chkO k c e = true → PO X e (tOp' P Φ ca X.K W c)
  | none, X, W, k, C, G, h, e, q => by
    unfold chkO at q
    rw [Option.isNone_iff_eq_none] at q
    subst q
    exact s_none
  | some c, X, W, k, C, G, h, e, q => by
    unfold chkO at q
    split at q
    · exact s_some (chk_ok c C G h .v noE q)
    · cases q
theorem ifs_ok : ∀ (cs : List CE) {X : Cx} {W : WX} {k : Ck} (C : CtxOk ca P kk X W) (G : GOk ca P X.prog X.w X.K X.mg X.base Φ kk) (h : CkOk k X) {es : List Expr}, chkIfs k cs es = true → PTs X es (tTs P Φ ca X.K W cs)
  | [], X, W, k, C, G, h, es, q => by
    unfold chkIfs at q
    cases isNil q
    exact ts_nil
  | c :: cs, X, W, k, C, G, h, es, q => by
    unfold chkIfs at q
    split at q
    · simp only [Bool.and_eq_true] at q
      cases isNil q.1
      exact ts_one (chk_ok c C G h .t noE q.2).1
    · cases q
end
end
end MP
end

section
set_option linter.all false
set_option autoImplicit false
set_option maxHeartbeats 4000000
set_option maxRecDepth 100000
namespace MP
open PySem L2 PyProof.Rows

section
variable {P : Prog} {Φ : Calls} {ca : String → Option Addr} {kk : Nat} {X : Cx} {W : WX} {k : Ck} {pos : Pos}
theorem setMany_read : ∀ {is : List Nat} {ds : List D} {vs : List V} {ρ ρ' : MP.Env} {σ : L2.St} {K : PySem.W.Frag} {F : Hp} {ms : List Addr}, setMany is ds ρ = some ρ' → VRels ca K F ms vs ds → SlotRel ca K F ms σ ρ → vs.length = is.length ∧ SlotRel ca K F ms ((is.zip vs).foldl (fun s p => s.set p.1 (some p.2)) σ) ρ'
  | [], [], _, _, _, _, _, _, _, h, .nil, sl => by simp only [setMany, Option.some.injEq] at h; subst h; exact ⟨rfl, sl⟩
  | [], _ :: _, _, _, _, _, _, _, _, h, _, _ => by simp [setMany] at h
  | _ :: _, [], _, _, _, _, _, _, _, h, _, _ => by simp [setMany] at h
  | i :: is, d :: ds, _, ρ, ρ', σ, _, _, _, h, .cons r rr, sl => by
    simp only [setMany] at h
    split at h
    · obtain ⟨h1, h2⟩ := setMany_read h rr (sl.set r)
      exact ⟨by rw [List.length_cons, List.length_cons, h1], h2⟩
    · cases h
theorem st_par3 {i j l : Nat} {x y z : Str} {a b c : Expr} {cs : List CE} {px py pz pt : Pos} {kt k2 pt2} (hc : X.calm = true) (hN : X.N.Nodup) (hi : X.N[i]? = some x) (hj : X.N[j]? = some y) (hl : X.N[l]? = some z) (hij : i ≠ j) (hil : i ≠ l) (hjl : j ≠ l)
    (hx : X.env.scope.names.lookup x = some .local) (hy : X.env.scope.names.lookup y = some .local) (hz : X.env.scope.names.lookup z = some .local)
    (ha : PA X [a, b, c] (tAs P Φ ca X.K W cs)) (hw : swappedStores [.Tuple [.Name x px, .Name y py, .Name z pz] kt pt] (.Tuple [a, b, c] k2 pt2) X.env = pure (some [x, y, z])) :
    PS X (.Assign [.Tuple [.Name x px, .Name y py, .Name z pz] kt pt] (.Tuple [a, b, c] k2 pt2) pos) (tS P Φ ca X.K W (.par [i, j, l] cs)) := (L2.ps_par3 hc hN hi hj hl hij hil hjl hx hy hz ha hw rfl).imp fun D σ H h => by
  obtain ⟨ex, ms, st, ρ, rs, sl, h⟩ := h
  simp only [evalS] at h
  refine ⟨ex, ms, st, ρ, rs, sl, h.of sl fun ds st1 ms1 H1 vs eq r1 x1 v1 s1 h1 => ?_⟩
  split at h1
  · rename_i ρ' e
    obtain ⟨hl, s2⟩ := setMany_read e v1 s1
    obtain ⟨v, w, u, rfl⟩ := len3 hl
    exact ⟨v, w, u, rfl, h1.here r1 s2⟩
  · exact h1.elim

def isTup1 : List Expr → Bool
  | [.Tuple _ _ _] => true
  | _ => false
def isTupV : Expr → Bool
  | .Tuple _ _ _ => true
  | _ => false
/-- names stored at once -/
def parOk (k : Ck) : List Nat → List Expr → List Expr → Bool
  | [i, j], [.Name x px, .Name y py], vs => decide (k.sc.kind = .function) && decide (i ≠ j) && decide (k.N[i]? = some x) && decide (k.N[j]? = some y) && isLocal k.sc x && isLocal k.sc y && (py.line == px.line) && decide (vs.length = 2) && vs.all noStar && !(vs.all (foldedForSure 8)) && !(vs.all (constantsAlone 8))
  | [i, j, l], [.Name x px, .Name y py, .Name z pz], vs => decide (k.sc.kind = .function) && decide (i ≠ j) && decide (i ≠ l) && decide (j ≠ l) && decide (k.N[i]? = some x) && decide (k.N[j]? = some y) && decide (k.N[l]? = some z) && isLocal k.sc x && isLocal k.sc y && isLocal k.sc z && (py.line == px.line) && (pz.line == px.line) && decide (vs.length = 3) && vs.all noStar && !(vs.all (foldedForSure 8)) && !(vs.all (constantsAlone 8))
  | _, _, _ => false
/-- a tuple stored in order -/
def noLocal (k : Ck) : Expr → Bool
  | .Name x _ => !decide (k.sc.names.lookup x = some .local)
  | _ => true
def unpOk (k : Ck) (ts : List Expr) : Expr → Bool
  | .Tuple vs _ _ => (!(decide (ts.length = 2) || decide (ts.length = 3)) || vs.all (foldedForSure 8) || ts.any (noLocal k)) && vs.all noStar
  | e => !isComp e
def lcLine (k : Ck) (x : Str) (px : Pos) : Expr → Bool
  | .ListComp _ _ scope pos => decide (k.sc.kind = .function) && isLocal k.sc x && (px.line == pos.line) && !(scope.names.any fun (n, k) => n == x && (k == .local || k == .cell))
  | _ => false
def isVarT : Tg → Bool
  | .var _ => true
  | _ => false
def isLc : CE → Bool
  | .lc _ _ _ _ _ _ => true
  | _ => false
def lcOff (px : Pos) : Expr → Bool
  | .ListComp _ _ _ pos => !(px.line == pos.line)
  | e => !isComp e
mutual
def chkS (k : Ck) : CS → Stmt → Bool
  | .set tg c, s => match s with
    | .Assign ts e _ => match ts with
      | [t] => match t with
        | .Name x px => (lcOff px e || (lcLine k x px e && isLc c)) && chkTg k tg t && isVarT tg && chkM k .v noE c e
        | .Tuple es _ _ => unpOk k es e && chkTg k tg t && chkM k .v noE c e
        | _ => false
      | _ => false
    | _ => false
  | .par is cs, s => match s with
    | .Assign ts e _ => match ts with
      | [t] => match t with
        | .Tuple es _ _ => match e with
          | .Tuple vs _ _ => parOk k is es vs && chkEs k cs vs
          | _ => false
        | _ => false
      | _ => false
    | _ => false
  | .setItem o i c, s => match s with
    | .Assign ts e _ => match ts with
      | [t] => match t with
        | .Subscript x y _ => noSlice y && chkM k .v noE o x && chkM k .v noE i y && chkM k .v noE c e
        | _ => false
      | _ => false
    | _ => false
  | .setAttr o f c, s => match s with
    | .Assign ts e _ => match ts with
      | [t] => match t with
        | .Attribute x y _ => decide (y = nmS f) && chkM k .v noE o x && chkM k .v noE c e
        | _ => false
      | _ => false
    | _ => false
  | .augVar i o c, s => match s with
    | .AugAssign t op e _ => match t with
      | .Name x _ => (match o with
        | .add => decide (op = .Add)
        | .sub => decide (op = .Sub)
        | _ => false) && decide (k.N[i]? = some x) && locB k.sc x && (k.fn x || isLocal k.sc x) && chkM k .v noE c e
      | _ => false
    | _ => false
  | .expr c, s => match s with
    | .Expr e _ => !isComp e && chkM k .v noE c e
    | _ => false
  | .ret c, s => match s with
    | .Return e _ => match e with
      | some e => chkM k .v noE c e
      | none => false
    | _ => false
  | .retN, s => match s with
    | .Return e _ => e.isNone
    | _ => false
  | .ifS c as bs, s => match s with
    | .If t a b _ => chkM k .t noE c t && chkSs k as a && chkSs k bs b
    | _ => false
  | .forS tg c bs, s => match s with
    | .For t it b orelse _ => orelse.isEmpty && notSet it && chkTg k tg t && chkM k .i t c it && chkSs k bs b
    | _ => false
  | .whileS c bs, s => match s with
    | .While t b orelse _ => orelse.isEmpty && chkM k .t noE c t && chkSs k bs b
    | _ => false
  | .pass, s => match s with
    | .Pass _ => true
    | _ => false
  | .brk, s => match s with
    | .Break _ => true
    | _ => false
  | .cont, s => match s with
    | .Continue _ => true
    | _ => false
  | .never, _ => true
  | .raise _ _, _ => false
  | .tryS _ _ _, _ => false
def chkSs (k : Ck) : List CS → List Stmt → Bool
  | [], ss => ss.isEmpty
  | c :: cs, ss => match ss with
    | s :: ss => chkS k c s && chkSs k cs ss
    | [] => false
end

theorem block_fun {env : PySem.Env} (h : env.scope.kind = .function) : env.blockKind = .function := by unfold Env.blockKind; rw [h]; rfl
theorem kind_of (h : CkOk k X) {x : Str} (q : isLocal k.sc x = true) : X.env.kindOf x = some .local := local_ok h q
theorem sw_off {e : Expr} {x : Str} {px : Pos} {l : Nat} {env : PySem.Env} (h : lcOff px e = true) : swapsWith e (some (.Name x px)) l env = pure false := by
  cases e with
  | ListComp a b c d =>
    simp only [lcOff, Bool.not_eq_true'] at h
    have h2 : (px.line == (Expr.ListComp a b c d).pos.line) = false := h
    unfold swapsWith
    simp only [h2, Bool.and_false, Bool.false_and]
  | SetComp => simp [lcOff, isComp] at h
  | DictComp => simp [lcOff, isComp] at h
  | _ => rfl
theorem sw_tup {e t : Expr} {l : Nat} {env : PySem.Env} (ht : isTupV t = true) : swapsWithSole [t] e l env = pure false := by
  cases t <;> first | (simp [isTupV] at ht; done) | (cases e <;> rfl)
theorem fm_short {α β : Type} {f : α → Option β} : ∀ {l : List α}, (l.any fun x => (f x).isNone) = true → (l.filterMap f).length < l.length
  | [], h => by simp at h
  | x :: l, h => by
    have le := List.length_filterMap_le f l
    rw [List.any_cons, Bool.or_eq_true] at h
    rw [List.filterMap_cons]
    cases e : f x with
    | none => rw [List.length_cons]; exact Nat.lt_succ_of_le le
    | some y =>
      rw [e] at h
      rcases h with h | h
      · simp at h
      · rw [List.length_cons, List.length_cons]; exact Nat.succ_lt_succ (fm_short h)
theorem stores_none (h0 : CkOk k X) {es : List Expr} {e : Expr} {kt : Nat} {pt : Pos} (h : unpOk k es e = true) : swappedStores [.Tuple es kt pt] e X.env = pure none := by
  cases e with
  | Tuple vs a b =>
    simp only [unpOk, Bool.and_eq_true, Bool.or_eq_true, Bool.not_eq_true'] at h
    unfold swappedStores
    dsimp only
    rcases h.1 with (h1 | h1) | h1
    · have h1' : (!(es.length == 2 || es.length == 3)) = true := by
        rw [Bool.or_eq_false_iff, decide_eq_false_iff_not, decide_eq_false_iff_not] at h1
        simp [h1.1, h1.2]
      simp only [h1', Bool.true_or, if_true]
    · simp only [h1, if_true]
      split
      · rfl
      · split
        · rfl
        · split <;> rfl
    · split
      · rfl
      · split
        · rfl
        · have lt : ∀ {f : Expr → Option Str}, (∀ t, noLocal k t = true → f t = none) → (es.filterMap f).length ≠ es.length := fun {f} hf => by
            refine Nat.ne_of_lt (fm_short ?_)
            rw [List.any_eq_true] at h1 ⊢
            obtain ⟨t, ht, hn⟩ := h1
            exact ⟨t, ht, by rw [hf t hn]; rfl⟩
          rw [if_pos]
          rw [Bool.or_eq_true]
          left
          rw [bne_iff_ne]
          refine lt fun t ht => ?_
          cases t <;> first
            | rfl
            | (rename_i id p
               simp only [noLocal, Bool.not_eq_true', decide_eq_false_iff_not] at ht
               have hk : ¬ X.env.kindOf id = some .local := by
                 show ¬ X.env.scope.names.lookup id = some .local
                 rw [h0.sc]; exact ht
               simp [hk])
  | _ => rfl
theorem noStar_any {vs : List Expr} (h : vs.all noStar = true) (f : Expr → Bool) (hf : ∀ e, noStar e = true → f e = false) : vs.any f = false := by
  rw [List.any_eq_false]
  intro e he
  rw [List.all_eq_true] at h
  rw [hf e (h e he)]
  exact Bool.false_ne_true
theorem par2_stores {x y : Str} {px py pt : Pos} {kt k2 : Nat} {a b : Expr} {pt2 : Pos} {env : PySem.Env} (hb : env.blockKind = .function) (hx : env.kindOf x = some .local) (hy : env.kindOf y = some .local) (hl : (py.line == px.line) = true) (hne : x ≠ y) (hs : [a, b].all noStar = true)
    (hf : [a, b].all (foldedForSure 8) = false) (hcn : [a, b].all (constantsAlone 8) = false) : swappedStores [.Tuple [.Name x px, .Name y py] kt pt] (.Tuple [a, b] k2 pt2) env = pure (some [x, y]) := by
  have e1 : (Expr.Name x px).pos.line = px.line := rfl
  have hd : (y == x) = false := beq_eq_false_iff_ne.mpr (Ne.symm hne)
  unfold swappedStores
  dsimp only
  rw [noStar_any hs _ (fun e he => by cases e <;> first | rfl | (simp [noStar] at he; done))]
  simp only [List.filterMap_cons, List.filterMap_nil, List.head?_cons, Option.map_some, Option.getD_some, hx, hy, hb, hl, hf, hcn, e1, beq_self_eq_true, Bool.and_self, if_true, List.length_cons, List.length_nil, List.eraseDups_cons, List.filter_cons, List.filter_nil, hd, Bool.not_false, List.eraseDups_nil]
  rfl
theorem par3_stores {x y z : Str} {px py pz pt : Pos} {kt k2 : Nat} {a b c : Expr} {pt2 : Pos} {env : PySem.Env} (hb : env.blockKind = .function) (hx : env.kindOf x = some .local) (hy : env.kindOf y = some .local) (hz : env.kindOf z = some .local) (hl : (py.line == px.line) = true) (hl2 : (pz.line == px.line) = true) (hne : x ≠ y) (hne2 : x ≠ z) (hne3 : y ≠ z) (hs : [a, b, c].all noStar = true)
    (hf : [a, b, c].all (foldedForSure 8) = false) (hcn : [a, b, c].all (constantsAlone 8) = false) : swappedStores [.Tuple [.Name x px, .Name y py, .Name z pz] kt pt] (.Tuple [a, b, c] k2 pt2) env = pure (some [x, y, z]) := by
  have e1 : (Expr.Name x px).pos.line = px.line := rfl
  have hd : (y == x) = false := beq_eq_false_iff_ne.mpr (Ne.symm hne)
  have hd2 : (z == x) = false := beq_eq_false_iff_ne.mpr (Ne.symm hne2)
  have hd3 : (z == y) = false := beq_eq_false_iff_ne.mpr (Ne.symm hne3)
  unfold swappedStores
  dsimp only
  rw [noStar_any hs _ (fun e he => by cases e <;> first | rfl | (simp [noStar] at he; done))]
  simp only [List.filterMap_cons, List.filterMap_nil, List.head?_cons, Option.map_some, Option.getD_some, hx, hy, hz, hb, hl, hl2, hf, hcn, e1, beq_self_eq_true, Bool.and_self, if_true, List.length_cons, List.length_nil, List.eraseDups_cons, List.filter_cons, List.filter_nil, hd, hd2, hd3, Bool.not_false, List.eraseDups_nil]
  rfl
theorem nodup_ne (h : CkOk k X) {i j : Nat} {x y : Str} (hN : X.N.Nodup) (hi : k.N[i]? = some x) (hj : k.N[j]? = some y) (hij : i ≠ j) : x ≠ y := fun e => hij (by
  subst e
  rw [← h.N] at hi hj
  exact nodup_get hN hi hj)
end
end MP
end

section
set_option linter.all false
set_option autoImplicit false
set_option maxHeartbeats 4000000
set_option maxRecDepth 100000
namespace MP
open PySem L2 PyProof.Rows
section
variable {P : Prog} {Φ : Calls} {ca : String → Option Addr} {kk : Nat}
theorem setN_any {X : Cx} {W : WX} {k : Ck} (C : CtxOk ca P kk X W) (G : GOk ca P X.prog X.w X.K X.mg X.base Φ kk) (h : CkOk k X) {tg : Tg} {c : CE} {e : Expr} {x : Str} {px pos : Pos} (h1 : (lcOff px e || (lcLine k x px e && isLc c)) = true) (h2 : chkTg k tg (.Name x px) = true) (h3 : isVarT tg = true) (h4 : chkM k .v noE c e = true) :
    PS X (.Assign [.Name x px] e pos) (tS P Φ ca X.K W (.set tg c)) := by
  cases tg with
  | tup ts => cases h3
  | var i =>
    unfold chkTg at h2
    simp only [Bool.and_eq_true, decide_eq_true_eq, Bool.or_eq_true] at h2
    have hi : X.N[i]? = some x := by rw [h.N]; exact h2.1.1
    rw [Bool.or_eq_true, Bool.and_eq_true] at h1
    rcases h1 with h1 | h1
    · exact st_set C.nd hi (loc_ok h h2.1.2) (chk_ok c C G h .v noE h4) (sw_off h1) (h2.2.elim (fun z => .inl (h.fn _ z)) fun z => .inr (local_ok h z))
    · obtain ⟨h1, hlc⟩ := h1
      cases e with
      | ListComp elt gens scope pos2 =>
        simp only [lcLine, Bool.and_eq_true, decide_eq_true_eq, Bool.not_eq_true'] at h1
        obtain ⟨⟨⟨g1, g2⟩, g3⟩, g4⟩ := h1
        have hl := local_ok h g2
        have hsw := sw_true (elt := elt) (gs := gens) (scope := scope) (pos := pos2) (py := px) (y := x) (l := pos.line) (env := X.env) (by rw [h.sc]; exact g1) hl g3 g4
        cases c with
        | lc m own elt' t it ifs =>
          unfold chkM at h4
          rw [Bool.and_eq_true] at h4
          have q := h4.2
          cases gens with
          | nil => cases q
          | cons g gs =>
          cases gs with
          | cons g' gs => cases q
          | nil =>
            simp only [Bool.and_eq_true, decide_eq_true_eq] at q
            obtain ⟨⟨⟨⟨⟨⟨⟨q1, q2⟩, q3⟩, q4⟩, q5⟩, q6⟩, q7⟩, q8⟩ := q
            obtain ⟨tgt, iter, ifs', asy⟩ := g
            dsimp only at q1 q2 q3 q6 q7
            subst q1
            have bk : BlkOk X.N X.env.scope scope (ownOf k own) := by
              have := blkOk_by q4
              rw [← h.N, ← h.sc] at this
              exact this
            rw [List.all_eq_true] at q5
            rw [← own_map (k := k) (own := own)]
            exact st_setLc C.calm C.nd hi hl hsw (chk_ok it C G h .i tgt q3) bk (fun i hi => by rw [own_map]; exact List.contains_iff_mem.mp (q5 i hi)) (fun s H Cc cl fp => tg_ok C.blk h.blk t q6)
              (fun s H Cc cl fp => ifs_ok ifs C.blk G h.blk q7) (fun s H Cc cl fp => chk_ok elt' C.blk G h.blk .v noE q8) (notSet_ok q2)
        | _ => cases hlc
      | _ => simp [lcLine] at h1

theorem par_any {X : Cx} {W : WX} {k : Ck} (C : CtxOk ca P kk X W) (G : GOk ca P X.prog X.w X.K X.mg X.base Φ kk) (h : CkOk k X) {is : List Nat} {cs : List CE} {es vs : List Expr} {kt k2 : Nat} {pt pt2 pos : Pos} (h1 : parOk k is es vs = true) (h2 : chkEs k cs vs = true) :
    PS X (.Assign [.Tuple es kt pt] (.Tuple vs k2 pt2) pos) (tS P Φ ca X.K W (.par is cs)) := by
  obtain ⟨pa, _⟩ := chks_ok cs C G h h2
  unfold parOk at h1
  split at h1
  · simp only [Bool.and_eq_true, decide_eq_true_eq, Bool.not_eq_true'] at h1
    obtain ⟨⟨⟨⟨⟨⟨⟨⟨⟨⟨q1, q2⟩, q3⟩, q4⟩, q5⟩, q6⟩, q7⟩, q8⟩, q9⟩, q10⟩, q11⟩ := h1
    obtain ⟨a, b, rfl⟩ := len2 q8
    exact st_par2 C.calm C.nd (by rw [h.N]; exact q3) (by rw [h.N]; exact q4) q2 (local_ok h q5) (local_ok h q6) pa (par2_stores (block_fun (by rw [h.sc]; exact q1)) (kind_of h q5) (kind_of h q6) q7 (nodup_ne h C.nd q3 q4 q2) q9 q10 q11)
  · simp only [Bool.and_eq_true, decide_eq_true_eq, Bool.not_eq_true'] at h1
    obtain ⟨⟨⟨⟨⟨⟨⟨⟨⟨⟨⟨⟨⟨⟨⟨q1, q2⟩, q3⟩, q4⟩, q5⟩, q6⟩, q7⟩, q8⟩, q9⟩, q10⟩, q11⟩, q12⟩, q13⟩, q14⟩, q15⟩, q16⟩ := h1
    obtain ⟨a, b, c, rfl⟩ := len3 q13
    exact st_par3 C.calm C.nd (by rw [h.N]; exact q5) (by rw [h.N]; exact q6) (by rw [h.N]; exact q7) q2 q3 q4 (local_ok h q8) (local_ok h q9) (local_ok h q10) pa
      (par3_stores (block_fun (by rw [h.sc]; exact q1)) (kind_of h q8) (kind_of h q9) (kind_of h q10) q11 q12 (nodup_ne h C.nd q5 q6 q2) (nodup_ne h C.nd q5 q7 q3) (nodup_ne h C.nd q6 q7 q4) q14 q15 q16)
  · cases h1
mutual
theorem chkS_ok : ∀ (c : CS) {X : Cx} {W : WX} {k : Ck} (C : CtxOk ca P kk X W) (G : GOk ca P X.prog X.w X.K X.mg X.base Φ kk) (h : CkOk k X) {s : Stmt}, chkS k c s = true → PS X s (tS P Φ ca X.K W c)
  | .set tg c, X, W, k, C, G, h, s, q => by
    unfold chkS at q
    split at q
    · split at q
      · split at q
        · simp only [Bool.and_eq_true] at q
          exact setN_any C G h q.1.1.1 q.1.1.2 q.1.2 q.2
        · simp only [Bool.and_eq_true] at q
          exact st_unp (chk_ok c C G h .v noE q.2) (tg_ok C h tg q.1.2) (sw_tup rfl) (stores_none h q.1.1) rfl
        · cases q
      · cases q
    · cases q
  | .par is cs, X, W, k, C, G, h, s, q => by
    unfold chkS at q
    split at q
    · split at q
      · split at q
        · split at q
          · simp only [Bool.and_eq_true] at q
            exact par_any C G h q.1 q.2
          · cases q
        · cases q
      · cases q
    · cases q
  | .setItem o i c, X, W, k, C, G, h, s, q => by
    unfold chkS at q
    split at q
    · split at q
      · split at q
        · simp only [Bool.and_eq_true] at q
          exact st_setItem C (chk_ok o C G h .v noE q.1.1.2) (chk_ok i C G h .v noE q.1.2) (chk_ok c C G h .v noE q.2) q.1.1.1
        · cases q
      · cases q
    · cases q
  | .setAttr o f c, X, W, k, C, G, h, s, q => by
    unfold chkS at q
    split at q
    · split at q
      · split at q
        · simp only [Bool.and_eq_true, decide_eq_true_eq] at q
          obtain ⟨⟨rfl, q1⟩, q2⟩ := q
          exact st_setAttr G (chk_ok o C G h .v noE q1) (chk_ok c C G h .v noE q2)
        · cases q
      · cases q
    · cases q
  | .augVar i o c, X, W, k, C, G, h, s, q => by
    unfold chkS at q
    split at q
    · split at q
      · simp only [Bool.and_eq_true, decide_eq_true_eq, Bool.or_eq_true] at q
        obtain ⟨⟨⟨⟨q1, q2⟩, q3⟩, q4⟩, q5⟩ := q
        refine st_aug ?_ C.nd (by rw [h.N]; exact q2) (loc_ok h q3) (chk_ok c C G h .v noE q5) (q4.elim (fun z => .inl (h.fn _ z)) fun z => .inr (local_ok h z))
        split at q1
        · exact .inl ⟨of_decide_eq_true q1, rfl⟩
        · exact .inr ⟨of_decide_eq_true q1, rfl⟩
        · cases q1
      · cases q
    · cases q
  | .expr c, X, W, k, C, G, h, s, q => by
    unfold chkS at q
    split at q
    · simp only [Bool.and_eq_true, Bool.not_eq_true'] at q
      exact st_expr (chk_ok c C G h .v noE q.2) q.1
    · cases q
  | .ret c, X, W, k, C, G, h, s, q => by
    unfold chkS at q
    split at q
    · split at q
      · exact st_ret (chk_ok c C G h .v noE q)
      · cases q
    · cases q
  | .retN, X, W, k, C, G, h, s, q => by
    unfold chkS at q
    split at q
    · rw [Option.isNone_iff_eq_none] at q
      subst q
      exact st_retN
    · cases q
  | .ifS c as bs, X, W, k, C, G, h, s, q => by
    unfold chkS at q
    split at q
    · simp only [Bool.and_eq_true] at q
      exact st_if (chk_ok c C G h .t noE q.1.1).1 (chkSs_ok as C G h q.1.2) (chkSs_ok bs C G h q.2)
    · cases q
  | .forS tg c bs, X, W, k, C, G, h, s, q => by
    unfold chkS at q
    split at q
    · simp only [Bool.and_eq_true] at q
      obtain ⟨⟨⟨⟨q1, q2⟩, q3⟩, q4⟩, q5⟩ := q
      cases isNil q1
      exact st_for C.hp C.calm (chk_ok c C G h .i _ q4) (tg_ok C h tg q3) (chkSs_ok bs C G h q5) (notSet_ok q2)
    · cases q
  | .whileS c bs, X, W, k, C, G, h, s, q => by
    unfold chkS at q
    split at q
    · simp only [Bool.and_eq_true] at q
      cases isNil q.1.1
      exact st_while C.hp (chk_ok c C G h .t noE q.1.2).1 (chkSs_ok bs C G h q.2)
    · cases q
  | .pass, X, W, k, C, G, h, s, q => by
    unfold chkS at q
    split at q
    · exact st_pass
    · cases q
  | .brk, X, W, k, C, G, h, s, q => by
    unfold chkS at q
    split at q
    · exact st_brk
    · cases q
  | .cont, X, W, k, C, G, h, s, q => by
    unfold chkS at q
    split at q
    · exact st_cont
    · cases q
  | .never, X, W, k, C, G, h, s, q => ps_never.imp fun D σ H h => by
    obtain ⟨ex, ms, st, ρ, rs, sl, h⟩ := h
    simp only [evalS] at h
    exact h
  | .raise _ _, X, W, k, C, G, h, s, q => by simp [chkS] at q
  | .tryS _ _ _, X, W, k, C, G, h, s, q => by simp [chkS] at q
theorem chkSs_ok : ∀ (cs : List CS) {X : Cx} {W : WX} {k : Ck} (C : CtxOk ca P kk X W) (G : GOk ca P X.prog X.w X.K X.mg X.base Φ kk) (h : CkOk k X) {ss : List Stmt}, chkSs k cs ss = true → PSs X ss (tSs P Φ ca X.K W cs)
  | [], X, W, k, C, G, h, ss, q => by
    unfold chkSs at q
    cases isNil q
    exact ss_nil
  | c :: cs, X, W, k, C, G, h, ss, q => by
    unfold chkSs at q
    split at q
    · simp only [Bool.and_eq_true] at q
      exact ss_cons (chkS_ok c C G h q.1) (chkSs_ok cs C G h q.2)
    · cases q
end
end
end MP
end

section
set_option linter.all false
set_option autoImplicit false
set_option maxHeartbeats 4000000
set_option maxRecDepth 100000
namespace MP
open PySem L2 PyProof.Rows

/-- a def by its body, where no repr is running at the call -/
theorem fnG_of {P : Program} {w : World} {K : PySem.W.Frag} {mg : Str → Option Value} {base : Heap} {k : Nat} {f : Addr} {x qual : Str} {st : Stmt} {fd : FuncData} {N ps : List Str} {sp : Sp} (F : L2.Fun K x qual st f fd) (S : FnScope N ps (defScope st))
    (hlen : ∀ vs H Q E, sp vs H Q E → ps.length = vs.length)
    (body : ∀ (cdv : Value) (A : Around) (out : List PySem.Env) (s : Shared) (H : Hp) (vs : List V) (Q : VK) (E : XK), A.guards = some [] → Room k (A.deeper (envOfC qual (defScope st) s.heap.objs.size f cdv)) → sp vs H Q E →
      ∃ t, PSs (cxOf (L2.CX P w) P w K mg base N qual (defScope st) f cdv A out s H E) (defBody st) t ∧ t { nx := fun _ H' => Q .non H', rt := Q } (L2.start N vs) H) : FnG P w K mg base (k + 1) f fd ps sp := by
  obtain ⟨oc, od, kV, doc, pm, an, cdv, ct, osl, rfl, look, code⟩ := F.ex
  constructor
  · exact fun vs H Q E h => (hlen vs H Q E h).symm
  intro A out s H args us vs Q E free room env bind rv promise
  have old : ∀ b o, base.get? b = some o → s.heap.get? b = some o := fun b o e => (env.bs b o e).left
  have kin := env.mod.kin.keeps old
  apply codeAny_call_function room.depth (kin f _ look) rfl S.co S.gen rfl (PySem.W.codeRec_of kin code)
  apply bind
  apply wpAny_newFunctionEnv_cells S.kind
  · intro y hy
    rcases S.par y.1 (List.of_mem_zip (a := y.1) (b := y.2) hy).left with z | z
    · exact Or.inl z
    · exact Or.inr ⟨z, PySem.W.cellsFrom_some _ _ _ (Or.inl z)⟩
  · rintro _ rfl s1 inside
    refine ⟨(env.mod.nolimit.keeps old).keeps inside.toInCall.keep, ?_⟩
    obtain ⟨t, run, q⟩ := body cdv A out s H vs Q E free (room.deeper _) promise
    have at1 := inv_start (CX := L2.CX P w) (cd := cdv) (E := E) S room.hd env (hlen vs H Q E promise).symm rv inside
    apply codeAny_func
    apply wpAny_mono (run.run [] s1 _ H _ at1 q) _ (fun _ _ z => z)
    intro fl s2 z
    cases fl with
    | next => obtain ⟨_, H2, J, z⟩ := z; exact ⟨V.non, H2, J.os, J.bare, J.base, J.hok, rfl, z⟩
    | ret u => obtain ⟨v, _, H2, J, r, z⟩ := z; exact ⟨v, H2, J.os, J.bare, J.base, J.hok, r, z⟩
    | brk => obtain ⟨_, _, _, z⟩ := z; exact z.elim
    | cont => obtain ⟨_, _, _, z⟩ := z; exact z.elim

theorem post_ret {ca : String → Option Addr} {K : PySem.W.Frag} {ex ms : List Addr} {st : Store} {H : Hp} {r : SR} {Q : VK} {E : XK} (hl : ms.length = st.length) (h : post ca K (VRel ca K) ex ms st H (retOf st.length r) Q E) :
    postS ca K (fun cls d _ H => E cls d H) ex ms st H r { nx := fun _ H' => Q .non H', rt := Q } := by
  cases r with
  | nx ρ st' =>
    intro ms' H' σ' r1 x1 _
    obtain ⟨ms2, r2, x2, v2⟩ := trim_ok r1 x1 hl (VRel.non)
    exact h ms2 H' _ r2 x2 v2
  | rt d st' =>
    intro ms' H' v r1 x1 v1
    obtain ⟨ms2, r2, x2, v2⟩ := trim_ok r1 x1 hl v1
    exact h ms2 H' _ r2 x2 v2
  | bk ρ st' => exact h.elim
  | ct ρ st' => exact h.elim
  | exn c vs ρ st' => exact fun ms' H' σ' cls dd r1 x1 _ z => h ms' H' cls dd r1 x1 z
  | stuck => exact h.elim
theorem slot_start {ca : String → Option Addr} {K : PySem.W.Frag} {F : Hp} {ms : List Addr} {vs : List V} {ds : List D} {N : List Str} {n : Nat} (hn : n = N.length) (r : VRels ca K F ms vs ds) : SlotRel ca K F ms (L2.start N vs) (startE n ds) := by
  subst hn
  unfold L2.start startE
  rw [r.length]
  refine ⟨by simp [r.length], fun i d e => ?_⟩
  rcases Nat.lt_or_ge i ds.length with hi | hi
  · rw [List.getElem?_append_left (by simpa using hi), List.getElem?_map, Option.map_eq_some_iff] at e
    obtain ⟨d', e1, e2⟩ := e
    cases e2
    obtain ⟨v, e3, rv⟩ := r.getD e1
    exact ⟨v, by rw [List.getElem?_append_left (by simpa [r.length] using hi), List.getElem?_map, e3]; rfl, rv⟩
  · rw [List.getElem?_append_right (by simpa using hi), List.getElem?_replicate] at e
    split at e <;> cases e

/-- a def's text and its code -/
structure FTxt (P : Prog) (K : PySem.W.Frag) (f : String) (fa : Addr) (fd : FuncData) (ps : List Str) : Prop where
  bind : Binds K fd ps []
  kws : ∀ p, p ∈ P.kw f → KwOk fd ps p
  ex : ∃ (x qual : Str) (st : Stmt) (N : List Str) (F : FnC), L2.Fun K x qual st fa fd ∧ FnScope N ps (defScope st) ∧ P.fn f = some F ∧ F.np = ps.length ∧ F.ns = N.length ∧ chkSs ⟨defScope st, N, fun _ => true⟩ F.body (defBody st) = true
def FOk (P : Prog) (K : PySem.W.Frag) (f : String) (fa : Addr) : Prop := ∃ (fd : FuncData) (ps : List Str), FTxt P K f fa fd ps

/-- all that the text says of the names -/
structure SOk (ca : String → Option Addr) (P : Prog) (K : PySem.W.Frag) (mg : Str → Option Value) : Prop where
  fns : ∀ f, f ∈ P.glob → ∃ fa, mg (nmS f) = some (.ref fa) ∧ PySem.W.keepIn K (.ref fa) = true ∧ FOk P K f fa
  cls : ∀ c kc, P.cl c = some kc → ∃ C, ca c = some C ∧ mg (nmS c) = some (.ref C) ∧ Cls K C ∧
    (∀ m f, kc.meths.lookup m = some f → ∃ fa, L2.Meth K C (nmS m) fa ∧ FOk P K f fa) ∧
    (∀ f, kc.meths.lookup "__init__" = some f → ∃ fa, Mk K C fa ∧ FOk P K f fa) ∧
    (∀ p g, kc.props.lookup p = some g → ∃ pa ga, PropOf K C (nmS p) pa ga ∧ FOk P K g ga) ∧
    ∀ f, kc.flds.contains f = true → NoAttr K C (nmS f)
  isF : ∀ c kc C, P.cl c = some kc → ca c = some C → PySem.W.findIn K (.ref C) "__class__" = some (some (.builtin "object.__class__")) ∧ PySem.W.mroIn K C (.type "object") = some true ∧
    ∀ ty, ty ∈ isTys → PySem.W.kitOne K (.type ty) (.ref C) = some false ∧ PySem.W.kitOne K (.ref C) (.type ty) = some false
  isG : (∃ c, (P.cl c).isSome = true) → PySem.W.specialIn K (.builtin "object.__class__") "__get__" = some (some (.builtin "getset_descriptor.__get__")) ∧ PySem.W.takesIn K (.builtin "object.__class__") = some true
  isE : ∀ c kc C, P.cl c = some kc → ca c = some C → (kc.flags.contains "eq" = true → (∀ ty, ty ∈ isTys → PySem.W.notFirst K C (.type ty) = true) ∧ ∀ c' C', (P.cl c').isSome = true → ca c' = some C' → PySem.W.notFirst K C (.ref C') = true) ∧
    (kc.flags.contains "ne" = true → PySem.W.findIn K (.ref C) "__ne__" = some (some (.builtin "object.__ne__"))) ∧ (kc.flags.contains "tru" = true → PySem.W.findIn K (.ref C) "__bool__" = some none ∧ PySem.W.findIn K (.ref C) "__len__" = some none)
  isC : ∀ c c' C C', (P.cl c).isSome = true → (P.cl c').isSome = true → ca c = some C → ca c' = some C' → PySem.W.kitOne K (.ref C) (.ref C') = some (decide (c = c'))
  blt : ∀ x, x ∈ bltNames → mg (nmS x) = none
  gl : ∀ x d, P.gl x = some d → ∃ u v, mg (nmS x) = some u ∧ RelV v u ∧ ∀ F ms, VRel ca K F ms v d

section
variable {ca : String → Option Addr} {P : Prog} {prog : Program} {w : World} {K : PySem.W.Frag} {mg : Str → Option Value} {base : Heap}
theorem fnG_next (S : SOk ca P K mg) {n : Nat} (G : GOk ca P prog w K mg base (callF P n) (5 * n)) {f : String} {fa : Addr} {fd : FuncData} {ps : List Str} (F : FTxt P K f fa fd ps) : FnG prog w K mg base (5 * (n + 1)) fa fd ps (spI ca K (callF P (n + 1)) f) := by
  obtain ⟨x, qual, st, N, Fc, hF, hS, hfn, hnp, hns, hck⟩ := F.ex
  refine fnG_of (k := 5 * n + 4) hF hS (fun vs H Q E h => ?_) fun cdv A outer s H vs Q E hgd hr h => ?_
  · obtain ⟨ex, ms, st0, ds, rs, rv, h⟩ := h
    simp only [callF, hfn] at h
    split at h
    · rename_i hl
      rw [rv.length, hl, hnp]
    · exact h.elim
  · obtain ⟨ex, ms, st0, ds, rs, rv, h⟩ := h
    simp only [callF, hfn] at h
    split at h
    · refine ⟨tSs P (callF P n) ca K (fun cls d _ H => E cls d H) Fc.body, ?_, ex, ms, st0, startE Fc.ns ds, rs, slot_start hns rv, post_ret rs.len h⟩
      refine chkSs_ok (kk := 5 * n) (k := ⟨defScope st, N, fun _ => true⟩) Fc.body ⟨rfl, hS.nd, takes_of rfl rfl rfl rfl, passes_of rfl, hr, hgd, S.gl⟩ G ⟨rfl, rfl, fun _ _ => rfl⟩ hck
    · exact h.elim
theorem fnG_zero {f : String} {fa : Addr} {fd : FuncData} {ps : List Str} (F : FTxt P K f fa fd ps) : FnG prog w K mg base 0 fa fd ps (spI ca K (callF P 0) f) := by
  constructor
  · rintro vs H Q E ⟨ex, ms, st0, ds, rs, rv, h⟩
    exact h.elim
  · rintro A outer s H args us vs Q E hgd hr e0 hb r ⟨ex, ms, st0, ds, rs, rv, h⟩
    exact h.elim
/-- the text's names from one depth of calls -/
theorem gok_by (S : SOk ca P K mg) {n : Nat} (at_ : ∀ f fa, FOk P K f fa → FnAt P ca prog w K mg base (callF P n) (5 * n) f fa) : GOk ca P prog w K mg base (callF P n) (5 * n) where
  fns := fun f hf => let ⟨fa, h1, h2, h3⟩ := S.fns f hf; ⟨fa, h1, h2, at_ f fa h3⟩
  cls := fun c kc hc => by
    obtain ⟨C, h1, h2, h3, h4, h5, h6, h7⟩ := S.cls c kc hc
    exact ⟨C, h1, h2, h3, fun m f q => let ⟨fa, a, b⟩ := h4 m f q; ⟨fa, a, at_ f fa b⟩, fun f q => let ⟨fa, a, b⟩ := h5 f q; ⟨fa, a, at_ f fa b⟩, fun p g q => let ⟨pa, ga, a, b⟩ := h6 p g q; ⟨pa, ga, a, at_ g ga b⟩, h7⟩
  isF := S.isF
  isG := S.isG
  isE := S.isE
  isC := S.isC
  blt := S.blt
theorem gok (S : SOk ca P K mg) : ∀ n, GOk ca P prog w K mg base (callF P n) (5 * n)
  | 0 => gok_by S fun f fa ⟨fd, ps, F⟩ => ⟨fd, ps, ⟨F.bind, F.kws⟩, fnG_zero F⟩
  | n + 1 => gok_by S fun f fa ⟨fd, ps, F⟩ => ⟨fd, ps, ⟨F.bind, F.kws⟩, fnG_next S (gok S n) F⟩
/-- a def's promise at every depth -/
theorem fnG_at (S : SOk ca P K mg) (n : Nat) {f : String} {fa : Addr} {fd : FuncData} {ps : List Str} (F : FTxt P K f fa fd ps) : FnG prog w K mg base (5 * n) fa fd ps (spI ca K (callF P n) f) := by
  cases n with
  | zero => exact fnG_zero F
  | succ n => exact fnG_next S (gok S n) F
end
end MP
end

section
set_option linter.all false
set_option autoImplicit false
set_option maxHeartbeats 4000000
set_option maxRecDepth 100000
namespace MP
open PySem L2 PyProof.Rows

/-- the abstract heap at the law's call: the script alone, where the text does not hold it itself -/
theorem script_heap {P : Program} {w : World} {K : PySem.W.Frag} {a : Addr} {s₁ : Shared} {vs : List Value} {ns : List Int} (kin : K.In s₁.heap) (ha : s₁.heap.get? a = some { cls := .type "list", data := .seq vs.toArray }) (rv : Vals (ns.map V.int) vs) (hl : ns.length ≤ sizeLine) :
    ∃ H : Hp, Only H ∧ SqL K H a (ns.map V.int) ∧ HOk P w H s₁.heap ∧ (∀ b u, H b = some u → b = a ∧ K.lookup a = none) := by
  have len : vs.length = ns.length := by rw [← rv.length, List.length_map]
  cases lk : K.lookup a with
  | some o =>
    have e := kin a o lk
    rw [ha] at e
    cases e
    refine ⟨fun _ => none, fun _ => .inl rfl, .inr ⟨_, vs.toArray, _, lk, rfl, rfl, rfl, ?_, ?_⟩, fun _ _ z => (nomatch z), fun _ _ z => (nomatch z)⟩
    · rw [List.size_toArray, len]; exact hl
    · simpa using rv
  | none =>
    have at_ : ∀ b u, (if b = a then some (HO.frz { cls := .type "list", data := .seq vs.toArray } (.lst (ns.map V.int))) else none) = some u → b = a ∧ u = .frz { cls := .type "list", data := .seq vs.toArray } (.lst (ns.map V.int)) := fun b u z => by
      split at z
      · rename_i hb
        exact ⟨hb, (Option.some.inj z).symm⟩
      · cases z
    refine ⟨fun b => if b = a then some (.frz { cls := .type "list", data := .seq vs.toArray } (.lst (ns.map V.int))) else none, fun b => ?_, .inl (.inr ⟨{ cls := .type "list", data := .seq vs.toArray }, if_pos rfl⟩), fun b u z => ?_, fun b u z => ⟨(at_ b u z).1, rfl⟩⟩
    · dsimp only
      split
      · exact .inr ⟨_, _, rfl⟩
      · exact .inl rfl
    · obtain ⟨rfl, rfl⟩ := at_ b u z
      exact ⟨ha, by rw [List.length_map]; exact hl, vs, _, rv, ha⟩
theorem law_runs {P : Program} {w : World} {K : PySem.W.Frag} {mg mb : Str → Option Value} {k : Nat} {fa a : Addr} {fd : FuncData} {x : Str} {sp : Sp} {s₁ : Shared} {vs : List Value} {ns : List Int}
    (kin : K.In s₁.heap) (glob : s₁.heap.Ns mainGlobals mg) (blt : s₁.heap.Ns builtinsNs mb) (boot : ∀ x : Str, x ≠ "__name__" → mb x = bootBuiltins x) (free : s₁.heap.NoLimit) (gens : s₁.gens = #[])
    (ha : s₁.heap.get? a = some { cls := .type "list", data := .seq vs.toArray }) (hi : IntsAre vs ns) (hl : ns.length ≤ sizeLine) (room : Room k callerA)
    (F : ∀ base : Heap, K.In base → base.Ns mainGlobals mg → FnG P w K mg base k fa fd [x] sp) (bind : ∀ u : Value, BindsTo s₁ fd ⟨[u], []⟩ [(x, u)])
    (promise : ∀ H : Hp, Only H → SqL K H a (ns.map V.int) → sp [.ref a] H (fun v _ => v = .bl true) fun _ _ _ => False) :
    codeAny (model P w) callerA (.call (.ref fa) ⟨[.ref a], []⟩) (fun r s' => r = .ok (.ret (.bool true)) ∧ OldK s₁.heap s'.heap ∧ s'.os = s₁.os ∧ AllBare s'.gens) s₁ := by
  obtain ⟨H, only, sq, ok, here⟩ := script_heap (P := P) (w := w) kin ha (vals_ints hi) hl
  -- what the heap without the script holds
  have base_dict : ∀ {b : Addr} {o : Obj} {es : Array DictEntry} {ep : Nat}, s₁.heap.get? b = some o → o.data = .dict es ep → (hidT s₁.heap H).get? b = some o := fun {b o es ep} e d => by
    refine hidT_get e ?_
    cases q : H b with
    | none => rfl
    | some u =>
      obtain ⟨rfl, _⟩ := here b u q
      rw [ha] at e
      cases e
      exact nomatch d
  have names : ∀ {b : Addr} {m : Str → Option Value}, s₁.heap.Ns b m → (hidT s₁.heap H).Ns b m := fun {b m} z => by
    obtain ⟨o, es, ep, e, d, r⟩ := z
    exact ⟨o, es, ep, base_dict e d, d, r⟩
  have kbase : K.In (hidT s₁.heap H) := fun b o e => by
    refine hidT_get (kin b o e) ?_
    cases q : H b with
    | none => rfl
    | some u =>
      obtain ⟨rfl, z⟩ := here b u q
      rw [e] at z
      cases z
  have modl : Mod K mg (hidT s₁.heap H) := by
    obtain ⟨mc, h1, h2⟩ := free
    exact ⟨kbase, names glob, ⟨mb, names blt, boot⟩, mc, names h1, h2⟩
  have env : Env0 P w K mg (hidT s₁.heap H) callerA [] s₁ H := ⟨rfl, modl, fun b o e => of_hidT e, Nat.le_of_eq (hidT_size _ _), trivial, fun b z => (nomatch z), ok, .of_eq gens⟩
  apply codeAny_mono ((F _ kbase (names glob)).run callerA [] s₁ H _ [.ref a] [.ref a] _ _ rfl room env (bind (.ref a)) (.cons rfl .nil) (promise H only sq))
  intro r s' z
  cases r with
  | error e => obtain ⟨_, _, _, _, _, _, _, _, _, _, _, _, z⟩ := z; exact z.elim
  | ok fl =>
    cases fl with
    | next => exact z.elim
    | brk => exact z.elim
    | cont => exact z.elim
    | ret u =>
      obtain ⟨v, H', os, bare, un, ok', rv, z⟩ := z
      have z : v = .bl true := z
      subst z
      cases (show u = Value.bool true from rv)
      refine ⟨rfl, OldK.of_keep fun b o e => ?_, os, bare⟩
      rcases only b with q | ⟨ob, xs, q⟩
      · exact un.keep b o e q (fun z => nomatch z) (by simp)
      · have e1 := (ok b _ q).1
        rw [e] at e1
        cases e1
        exact (ok' b _ (un.frzs b _ _ q)).1
theorem vw_nil {H : Hp} : vw [] [] [] H = H := by
  funext b
  unfold vw
  rw [if_neg (by simp [liveB])]
theorem rs_nil {ca : String → Option Addr} {K : PySem.W.Frag} {H : Hp} : RS ca K [] [] [] H := ⟨rfl, .nil, fun _ h => (nomatch h), fun _ h => (nomatch h), fun _ h => (nomatch h), fun i a c h => by simp at h⟩
theorem rels_ints {ca : String → Option Addr} {K : PySem.W.Frag} {F : Hp} {ms : List Addr} : ∀ ns : List Int, VRels ca K F ms (ns.map V.int) (ns.map D.int)
  | [] => .nil
  | n :: ns => .cons (.int n) (rels_ints ns)
def caOf (K : PySem.W.Frag) (c : String) : Option Addr := match PySem.W.nsIn K mainGlobals (nmS c) with
  | some (some (.ref C)) => some C
  | _ => none
/-- the goal behind the head, from the code: the law's def is f, and it answers True -/
theorem walk_by {l : PySem.W.OpenLaw} {n m : Nat} {q : Program} {loose : List Str} {XP : (Str → Option Value) → Heap → Prop} {YP : World → Heap → Prop} {d : DefRec} {K : Params → PySem.W.Frag} {P : Prog} {f : String} {Fc : FnC}
    (hn : l.most = some n) (hn2 : n ≤ sizeLine) (hdf : d.params.defaults = []) (hr : Room (5 * m) callerA) (hf : P.fn f = some Fc) (hnp : Fc.np = 1)
    (hY : ∀ (w : World) (h : Heap), YP w h → (K w.params).In h)
    (F : ∀ (w : World) (mg : Str → Option Value) (fa : Addr) (h : Heap), (K w.params).In h → h.Ns mainGlobals mg → mg d.name = some (.ref fa) → SOk (caOf (K w.params)) P (K w.params) mg ∧ FOk P (K w.params) f fa)
    (law : ∀ ns : List Int, ns.length ≤ n → ∃ st, callF P m f [.lst (ns.map .int)] [] = .ok (.bl true) st) :
    PySem.W.WalkO q loose XP YP l.row.toRowW d [] (fun f vs => PySem.call f vs) := by
  refine Att.attach_call hn hdf fun w s₀ s₁ mg mb fa o pm cd doc a vs ns G Y ho hd hcd hmg hobj hints hlen hg => ?_
  have kin := hY w _ Y
  obtain ⟨S, fd, ps, T⟩ := F w mg fa _ kin G.T.g hmg
  have hps : ps.length = 1 := by
    obtain ⟨x, qual, st, N, F', _, _, hfn, hnp', _⟩ := T.ex
    rw [hf] at hfn
    cases hfn
    rw [← hnp', hnp]
  obtain ⟨x, rfl⟩ := len1 hps
  refine law_runs (x := x) (sp := spI (caOf (K w.params)) (K w.params) (callF P m) f) kin G.T.g G.T.b G.T.builtins G.T.nolimit hg hobj hints (Nat.le_trans hlen hn2) hr (fun base _ _ => fnG_at S m T) (fun u => by simpa using T.bind s₁ [u] kin rfl) fun H only sq => ?_
  obtain ⟨st, e⟩ := law ns hlen
  refine ⟨[], [], [], [.lst (ns.map .int)], rs_nil, .one (.lst (by rw [vw_nil]; exact sq) (rels_ints ns)), ?_⟩
  rw [e]
  intro ms' H' b _ _ r
  cases r
  rfl

theorem caOf_is {K : PySem.W.Frag} {c : String} {C : Addr} (h : PySem.W.nsIn K mainGlobals (nmS c) = some (some (.ref C))) : caOf K c = some C := by
  unfold caOf
  rw [h]
theorem alln {α : Type} {Q : α → Prop} : ∀ x, x ∈ ([] : List α) → Q x := fun _ h => (nomatch h)
theorem allc {α : Type} {Q : α → Prop} {a : α} {l : List α} (h : Q a) (r : ∀ x, x ∈ l → Q x) : ∀ x, x ∈ a :: l → Q x := fun x z => (List.mem_cons.mp z).elim (fun e => by rw [e]; exact h) (r x)
theorem lookn {β : Type} {R : String → β → Prop} : ∀ m f, List.lookup m ([] : List (String × β)) = some f → R m f := fun _ _ h => (nomatch h)
theorem lookc {β : Type} {R : String → β → Prop} {a : String} {b : β} {l : List (String × β)} (h : R a b) (r : ∀ m f, l.lookup m = some f → R m f) : ∀ m f, ((a, b) :: l).lookup m = some f → R m f := fun m f z => by
  rw [List.lookup_cons] at z
  split at z
  · rename_i e
    rw [beq_iff_eq] at e
    subst e
    cases z
    exact h
  · exact r m f z
theorem look3 {β : Type} {ca : String → Option Addr} {l : List (String × β)} {R : String → β → Addr → Prop} (h : ∀ m f, l.lookup m = some f → ∀ C, ca m = some C → R m f C) : ∀ m f C, l.lookup m = some f → ca m = some C → R m f C := fun m f C a b => h m f a C b
theorem lookS {β : Type} {ca : String → Option Addr} {l : List (String × β)} {R : String → Addr → Prop} (h : ∀ m f, l.lookup m = some f → ∀ C, ca m = some C → R m C) : ∀ m C, (l.lookup m).isSome = true → ca m = some C → R m C := fun m C a b => let ⟨f, e⟩ := Option.isSome_iff_exists.mp a; h m f e C b
theorem look4 {β : Type} {ca : String → Option Addr} {l : List (String × β)} {R : String → String → Addr → Addr → Prop} (h : ∀ m f, l.lookup m = some f → ∀ C, ca m = some C → ∀ m' f', l.lookup m' = some f' → ∀ C', ca m' = some C' → R m m' C C') :
    ∀ c c' C C', (l.lookup c).isSome = true → (l.lookup c').isSome = true → ca c = some C → ca c' = some C' → R c c' C C' := fun c c' C C' a a' b b' => by
  obtain ⟨f, e⟩ := Option.isSome_iff_exists.mp a
  obtain ⟨f', e'⟩ := Option.isSome_iff_exists.mp a'
  exact h c f e C b c' f' e' C' b'
end MP
end

section
set_option linter.all false
set_option autoImplicit false
set_option maxHeartbeats 1000000
namespace MP
open PySem
abbrev QX := String → List D → Store → Prop
def RQ {α : Type} (r : R α) (Q : α → Store → Prop) (X : QX) : Prop := match r with
  | .ok a st => Q a st
  | .exn c vs st => X c vs st
  | .stuck => False
theorem RQ.bd {α β : Type} {m : R α} {f : α → Store → R β} {Q : β → Store → Prop} {X : QX} (h : RQ m (fun a st => RQ (f a st) Q X) X) : RQ (m.bd f) Q X := by
  cases m with
  | ok a st => exact h
  | exn c vs st => exact h
  | stuck => exact h
theorem RQ.mono {α : Type} {m : R α} {Q Q' : α → Store → Prop} {X X' : QX} (h : RQ m Q X) (hq : ∀ a st, Q a st → Q' a st) (hx : ∀ c vs st, X c vs st → X' c vs st) : RQ m Q' X' := by
  cases m with
  | ok a st => exact hq _ _ h
  | exn c vs st => exact hx _ _ _ h
  | stuck => exact h
/-- nothing is raised -/
def nox : QX := fun _ _ _ => False
structure WO {α : Type} (o : Option α) (Q : α → Prop) : Prop where
  h : ∃ z, o = some z ∧ Q z
theorem WO.mk' {α : Type} {o : Option α} {Q : α → Prop} {z : α} (e : o = some z) (h : Q z) : WO o Q := ⟨⟨z, e, h⟩⟩
theorem WO.opt {α : Type} {o : Option α} {st : Store} {Q : α → Store → Prop} {X : QX} (h : WO o fun z => Q z st) : RQ (MP.opt o st) Q X := by
  obtain ⟨z, e, h⟩ := h.h
  rw [e]; exact h
theorem WO.optM {α β : Type} {o : Option α} {g : α → β} {st : Store} {Q : β → Store → Prop} {X : QX} (h : WO o fun z => Q (g z) st) : RQ (MP.opt (o.map g) st) Q X := by
  obtain ⟨z, e, h⟩ := h.h
  rw [e]; exact h
section
variable (P : Prog) (Φ : Calls) (ρ : Env)
structure WE (md : Md) (e : CE) (st : Store) (Q : D → Store → Prop) (X : QX) : Prop where
  h : RQ (evalM P Φ ρ md e st) Q X
structure WEs (es : List CE) (st : Store) (Q : List D → Store → Prop) (X : QX) : Prop where
  h : RQ (evalEs P Φ ρ es st) Q X
structure WFs (es : List CE) (acc : Str) (st : Store) (Q : D → Store → Prop) (X : QX) : Prop where
  h : RQ (evalFs P Φ ρ es acc st) Q X
end
structure WC (Φ : Calls) (f : String) (vs : List D) (st : Store) (Q : D → Store → Prop) (X : QX) : Prop where
  h : RQ (Φ f vs st) Q X
theorem WC.mono {Φ : Calls} {f : String} {vs : List D} {st : Store} {Q Q' : D → Store → Prop} {X X' : QX} (h : WC Φ f vs st Q X) (hq : ∀ a st, Q a st → Q' a st) (hx : ∀ c vs st, X c vs st → X' c vs st := by intro c vs st h; exact h) : WC Φ f vs st Q' X' := ⟨h.h.mono hq hx⟩
theorem WC.of_eq {Φ : Calls} {f : String} {vs : List D} {st st' : Store} {d : D} {Q : D → Store → Prop} {X : QX} (e : Φ f vs st = .ok d st') (h : Q d st') : WC Φ f vs st Q X := ⟨by rw [e]; exact h⟩
theorem WC.eq {Φ : Calls} {f : String} {vs : List D} {st st' : Store} {d : D} (h : WC Φ f vs st (fun d' s => d' = d ∧ s = st') nox) : Φ f vs st = .ok d st' := by
  have := h.h
  cases e : Φ f vs st with
  | ok a s => rw [e] at this; obtain ⟨rfl, rfl⟩ := this; rfl
  | exn c vs s => rw [e] at this; exact this.elim
  | stuck => rw [e] at this; exact this.elim
theorem WC.ex {Φ : Calls} {f : String} {vs : List D} {st : Store} {Q : D → Store → Prop} (h : WC Φ f vs st Q nox) : ∃ d st', Φ f vs st = .ok d st' ∧ Q d st' := by
  have := h.h
  cases e : Φ f vs st with
  | ok a s => rw [e] at this; exact ⟨a, s, rfl, this⟩
  | exn c vs s => rw [e] at this; exact this.elim
  | stuck => rw [e] at this; exact this.elim

inductive GetAt : Env → Nat → D → Prop
  | z {d : D} {ρ : Env} : GetAt (some d :: ρ) 0 d
  | s {a : Option D} {d : D} {ρ : Env} {i : Nat} (h : GetAt ρ i d) : GetAt (a :: ρ) (i + 1) d
theorem GetAt.get {ρ : Env} {i : Nat} {d : D} (h : GetAt ρ i d) : ρ[i]? = some (some d) := by
  induction h with
  | z => rfl
  | s _ ih => simpa using ih
inductive SetAt : Env → Nat → Option D → Env → Prop
  | z {a d : Option D} {ρ : Env} : SetAt (a :: ρ) 0 d (d :: ρ)
  | s {a d : Option D} {ρ ρ' : Env} {i : Nat} (h : SetAt ρ i d ρ') : SetAt (a :: ρ) (i + 1) d (a :: ρ')
theorem SetAt.set {ρ ρ' : Env} {i : Nat} {d : Option D} (h : SetAt ρ i d ρ') : i < ρ.length ∧ ρ.set i d = ρ' := by
  induction h with
  | z => exact ⟨by simp, rfl⟩
  | s _ ih => exact ⟨by simp [ih.1], by simp [ih.2]⟩
inductive WipeAt : Env → List Nat → Env → Prop
  | n {ρ : Env} : WipeAt ρ [] ρ
  | c {ρ ρ1 ρ2 : Env} {v : Nat} {vs : List Nat} (h : WipeAt ρ vs ρ1) (g : SetAt ρ1 v none ρ2) : WipeAt ρ (v :: vs) ρ2
theorem WipeAt.eq {ρ ρ' : Env} {vs : List Nat} (h : WipeAt ρ vs ρ') : wipeE ρ vs = ρ' := by
  induction h with
  | n => rfl
  | c _ g ih => rw [wipeE, ih]; exact g.set.2
/-- binding a target -/
structure WB (st : Store) (tg : Tg) (d : D) (ρ : Env) (Q : Env → Prop) : Prop where
  h : ∃ ρ', bindT st tg d ρ = some ρ' ∧ Q ρ'
structure WBs (st : Store) (ts : List Tg) (ds : List D) (ρ : Env) (Q : Env → Prop) : Prop where
  h : ∃ ρ', bindTs st ts ds ρ = some ρ' ∧ Q ρ'
theorem WB.var {st : Store} {i : Nat} {d : D} {ρ ρ' : Env} {Q : Env → Prop} (g : SetAt ρ i (some d) ρ') (h : Q ρ') : WB st (.var i) d ρ Q := ⟨⟨ρ', by rw [bindT, if_pos g.set.1, g.set.2], h⟩⟩
theorem WB.tup {st : Store} {ts : List Tg} {d : D} {xs : List D} {ρ : Env} {Q : Env → Prop} (e : seqOf st d = some xs) (h : WBs st ts xs ρ Q) : WB st (.tup ts) d ρ Q := ⟨by
  obtain ⟨ρ', e', h⟩ := h.h
  exact ⟨ρ', by rw [bindT, e]; exact e', h⟩⟩
theorem WBs.nil {st : Store} {ρ : Env} {Q : Env → Prop} (h : Q ρ) : WBs st [] [] ρ Q := ⟨⟨ρ, rfl, h⟩⟩
theorem WBs.cons {st : Store} {t : Tg} {ts : List Tg} {d : D} {ds : List D} {ρ : Env} {Q : Env → Prop} (h : WB st t d ρ fun ρ' => WBs st ts ds ρ' Q) : WBs st (t :: ts) (d :: ds) ρ Q := ⟨by
  obtain ⟨ρ1, e1, h1⟩ := h.h
  obtain ⟨ρ2, e2, h2⟩ := h1.h
  exact ⟨ρ2, by rw [bindTs, e1]; exact e2, h2⟩⟩

section
variable {P : Prog} {Φ : Calls} {ρ : Env} {st : Store} {Q : D → Store → Prop} {X : QX}
def isPl : CE → Bool
  | .and _ _ => false | .or _ _ => false | .not _ => false | .rng _ => false | .enu _ => false | .zip _ => false | _ => true
theorem evalM_md {e : CE} (md : Md) (he : isPl e = true) : evalM P Φ ρ md e st = fin md (evalM P Φ ρ .v e st) := by
  cases e <;> simp only [evalM, fin_v] <;> first | (exact Bool.noConfusion he) | skip
  all_goals (repeat' split)
  all_goals first | rfl | (cases md <;> rfl) | simp_all
theorem RQ.fin {md : Md} {r : R D} (h : RQ r (fun d st => match md with
    | .v => Q d st
    | .t => WO (truD st d) fun b => Q (.bl b) st
    | .i => WO (iterOf st d) fun p => Q (packI p) st) X) : RQ (fin md r) Q X := by
  cases md with
  | v => exact h
  | t => exact RQ.bd (h.mono (fun a st z => WO.optM z) fun _ _ _ z => z)
  | i => exact RQ.bd (h.mono (fun a st z => WO.optM z) fun _ _ _ z => z)
theorem WE.t {e : CE} (he : isPl e = true) (h : WE P Φ ρ .v e st (fun d st => WO (truD st d) fun b => Q (.bl b) st) X) : WE P Φ ρ .t e st Q X := ⟨by
  rw [evalM_md .t he]; exact RQ.fin h.h⟩
theorem WE.i {e : CE} (he : isPl e = true) (h : WE P Φ ρ .v e st (fun d st => WO (iterOf st d) fun p => Q (packI p) st) X) : WE P Φ ρ .i e st Q X := ⟨by
  rw [evalM_md .i he]; exact RQ.fin h.h⟩
theorem WE.var {i : Nat} {d : D} (g : GetAt ρ i d) (h : Q d st) : WE P Φ ρ .v (.var i) st Q X := ⟨by
  rw [evalM, fin_v, g.get]; exact h⟩
theorem WE.gc {x : String} {d : D} (g : P.gl x = some d) (h : Q d st) : WE P Φ ρ .v (.gc x) st Q X := ⟨by
  rw [evalM, fin_v, g]; exact h⟩
theorem WE.cst {d : D} (h : Q d st) : WE P Φ ρ .v (.cst d) st Q X := ⟨by
  rw [evalM, fin_v]; exact h⟩
theorem WE.bin {o : Op2} {a b : CE} (h : WE P Φ ρ .v a st (fun x st => WE P Φ ρ .v b st (fun y st => WO (binF o x y) fun z => Q z st) X) X) : WE P Φ ρ .v (.bin o a b) st Q X := ⟨by
  rw [evalM, fin_v]; exact RQ.bd (h.h.mono (fun x st z => RQ.bd (z.h.mono (fun y st z => WO.opt z) fun _ _ _ z => z)) fun _ _ _ z => z)⟩
theorem WE.neg {a : CE} (h : WE P Φ ρ .v a st (fun x st => ∃ i, x = .int i ∧ Q (.int (-i)) st) X) : WE P Φ ρ .v (.neg a) st Q X := ⟨by
  rw [evalM, fin_v]; exact RQ.bd (h.h.mono (fun x st ⟨i, e, z⟩ => by subst e; exact z) fun _ _ _ z => z)⟩
theorem WE.cmp {o : OpC} {a b : CE} (h : WE P Φ ρ .v a st (fun x st => WE P Φ ρ .v b st (fun y st => WO (cmpF st o x y) fun z => Q (.bl z) st) X) X) : WE P Φ ρ .v (.cmp o a b) st Q X := ⟨by
  rw [evalM, fin_v]; exact RQ.bd (h.h.mono (fun x st z => RQ.bd (z.h.mono (fun y st z => WO.optM z) fun _ _ _ z => z)) fun _ _ _ z => z)⟩
theorem WE.chain {o o' : OpC} {a b c : CE} (h : WE P Φ ρ .v a st (fun x st => WE P Φ ρ .v b st (fun y st => WO (cmpF st o x y) fun k => (k = false → Q (.bl false) st) ∧ (k = true → WE P Φ ρ .v c st (fun z st => WO (cmpF st o' y z) fun k => Q (.bl k) st) X)) X) X) : WE P Φ ρ .v (.chain o o' a b c) st Q X := ⟨by
  rw [evalM, fin_v]
  refine RQ.bd (h.h.mono (fun x st z => RQ.bd (z.h.mono (fun y st z => RQ.bd (WO.opt ?_)) fun _ _ _ z => z)) fun _ _ _ z => z)
  obtain ⟨k, e, z1, z2⟩ := z.h
  refine ⟨⟨k, e, ?_⟩⟩
  cases k with
  | false => exact z1 rfl
  | true => exact RQ.bd ((z2 rfl).h.mono (fun _ _ z => WO.optM z) fun _ _ _ z => z)⟩
theorem evalM_andV {a b : CE} : evalM P Φ ρ .v (.and a b) st = (evalM P Φ ρ .v a st).bd (boolK fun k st => if k then evalM P Φ ρ .v b st else .ok (.bl false) st) := by rw [evalM, fin_v]; simp
theorem evalM_orV {a b : CE} : evalM P Φ ρ .v (.or a b) st = (evalM P Φ ρ .v a st).bd (boolK fun k st => if k then .ok (.bl true) st else evalM P Φ ρ .v b st) := by rw [evalM, fin_v]; simp
theorem evalM_notV {a : CE} : evalM P Φ ρ .v (.not a) st = (evalM P Φ ρ .v a st).bd (boolK fun k st => .ok (.bl (!k)) st) := by rw [evalM, fin_v]; simp
/-- `and`, `or`: both branches -/
theorem WE.andT {a b : CE} (h : WE P Φ ρ .t a st (fun x st => ∃ k, x = .bl k ∧ (k = false → Q (.bl false) st) ∧ (k = true → WE P Φ ρ .t b st Q X)) X) : WE P Φ ρ .t (.and a b) st Q X := ⟨by
  rw [evalM]; exact RQ.bd (h.h.mono (fun x st ⟨k, e, z1, z2⟩ => by
    subst e
    cases k with
    | false => exact z1 rfl
    | true => exact (z2 rfl).h) fun _ _ _ z => z)⟩
theorem WE.orT {a b : CE} (h : WE P Φ ρ .t a st (fun x st => ∃ k, x = .bl k ∧ (k = true → Q (.bl true) st) ∧ (k = false → WE P Φ ρ .t b st Q X)) X) : WE P Φ ρ .t (.or a b) st Q X := ⟨by
  rw [evalM]; exact RQ.bd (h.h.mono (fun x st ⟨k, e, z1, z2⟩ => by
    subst e
    cases k with
    | true => exact z1 rfl
    | false => exact (z2 rfl).h) fun _ _ _ z => z)⟩
theorem WE.notT {a : CE} (h : WE P Φ ρ .t a st (fun x st => ∃ k, x = .bl k ∧ Q (.bl (!k)) st) X) : WE P Φ ρ .t (.not a) st Q X := ⟨by
  rw [evalM]; exact RQ.bd (h.h.mono (fun x st ⟨k, e, z⟩ => by subst e; exact z) fun _ _ _ z => z)⟩
theorem WE.andV {a b : CE} (h : WE P Φ ρ .v a st (fun x st => ∃ k, x = .bl k ∧ (k = false → Q (.bl false) st) ∧ (k = true → WE P Φ ρ .v b st Q X)) X) : WE P Φ ρ .v (.and a b) st Q X := ⟨by
  rw [evalM_andV]; exact RQ.bd (h.h.mono (fun x st ⟨k, e, z1, z2⟩ => by
    subst e
    cases k with
    | false => exact z1 rfl
    | true => exact (z2 rfl).h) fun _ _ _ z => z)⟩
theorem WE.orV {a b : CE} (h : WE P Φ ρ .v a st (fun x st => ∃ k, x = .bl k ∧ (k = true → Q (.bl true) st) ∧ (k = false → WE P Φ ρ .v b st Q X)) X) : WE P Φ ρ .v (.or a b) st Q X := ⟨by
  rw [evalM_orV]; exact RQ.bd (h.h.mono (fun x st ⟨k, e, z1, z2⟩ => by
    subst e
    cases k with
    | true => exact z1 rfl
    | false => exact (z2 rfl).h) fun _ _ _ z => z)⟩
theorem WE.notV {a : CE} (h : WE P Φ ρ .v a st (fun x st => ∃ k, x = .bl k ∧ Q (.bl (!k)) st) X) : WE P Φ ρ .v (.not a) st Q X := ⟨by
  rw [evalM_notV]; exact RQ.bd (h.h.mono (fun x st ⟨k, e, z⟩ => by subst e; exact z) fun _ _ _ z => z)⟩
theorem WE.ite {t a b : CE} (h : WE P Φ ρ .t t st (fun x st => ∃ k, x = .bl k ∧ (k = true → WE P Φ ρ .v a st Q X) ∧ (k = false → WE P Φ ρ .v b st Q X)) X) : WE P Φ ρ .v (.ite t a b) st Q X := ⟨by
  rw [evalM]; exact RQ.bd (h.h.mono (fun x st ⟨k, e, z1, z2⟩ => by
    subst e
    cases k with
    | true => exact (z1 rfl).h
    | false => exact (z2 rfl).h) fun _ _ _ z => z)⟩
theorem WEs.nil {Q : List D → Store → Prop} (h : Q [] st) : WEs P Φ ρ [] st Q X := ⟨by rw [evalEs]; exact h⟩
theorem WEs.cons {e : CE} {es : List CE} {Q : List D → Store → Prop} (h : WE P Φ ρ .v e st (fun x st => WEs P Φ ρ es st (fun xs st => Q (x :: xs) st) X) X) : WEs P Φ ρ (e :: es) st Q X := ⟨by
  rw [evalEs]; exact RQ.bd (h.h.mono (fun x st z => RQ.bd z.h) fun _ _ _ z => z)⟩
theorem WE.tup {es : List CE} (h : WEs P Φ ρ es st (fun xs st => xs.length ≤ LINE ∧ Q (.tup xs) st) X) : WE P Φ ρ .v (.tup es) st Q X := ⟨by
  rw [evalM, fin_v]; exact RQ.bd (h.h.mono (fun x st ⟨z1, z2⟩ => by rw [if_pos z1]; exact z2) fun _ _ _ z => z)⟩
theorem WE.lstF {es : List CE} (h : WEs P Φ ρ es st (fun xs st => xs.length ≤ LINE ∧ Q (.lst xs) st) X) : WE P Φ ρ .v (.lst false es) st Q X := ⟨by
  rw [evalM, fin_v]; exact RQ.bd (h.h.mono (fun x st ⟨z1, z2⟩ => by rw [mkLst, if_pos z1]; exact z2) fun _ _ _ z => z)⟩
inductive LenAt : Store → Nat → Prop
  | base {S : Store} : LenAt S S.length
  | snoc {S : Store} {c : Cell} {n : Nat} (h : LenAt S n) : LenAt (S ++ [c]) (n + 1)
theorem LenAt.eq {S : Store} {n : Nat} (h : LenAt S n) : S.length = n := by
  induction h with
  | base => rfl
  | snoc _ ih => simp [ih]
theorem WE.lstT {es : List CE} (h : WEs P Φ ρ es st (fun xs st => xs.length ≤ LINE ∧ ∃ n, LenAt st n ∧ Q (.own n) (st ++ [.lst xs])) X) : WE P Φ ρ .v (.lst true es) st Q X := ⟨by
  rw [evalM, fin_v]; exact RQ.bd (h.h.mono (fun x st ⟨z1, n, z3, z2⟩ => by rw [mkLst, if_pos z1, newCell, z3.eq]; exact z2) fun _ _ _ z => z)⟩
theorem WE.item {a b : CE} (h : WE P Φ ρ .v a st (fun x st => WE P Φ ρ .v b st (fun y st => WO (itemF st x y) fun z => Q z st) X) X) : WE P Φ ρ .v (.item a b) st Q X := ⟨by
  rw [evalM, fin_v]; exact RQ.bd (h.h.mono (fun x st z => RQ.bd (z.h.mono (fun y st z => WO.opt z) fun _ _ _ z => z)) fun _ _ _ z => z)⟩
theorem RQ.int {i : Int} {st : Store} {f : Option Int → Store → R D} (h : RQ (f (some i) st) Q X) : RQ (opt (intK (.int i)) st) (fun a st => RQ (f a st) Q X) X := h
theorem WE.slNN {a : CE} (h : WE P Φ ρ .v a st (fun x st => WO (slF st x none none) fun z => Q z st) X) : WE P Φ ρ .v (.sl a none none) st Q X := ⟨by
  rw [evalM, fin_v]; exact RQ.bd (h.h.mono (fun x st z => by simp only [evalO, R.bd_ok]; exact WO.opt z) fun _ _ _ z => z)⟩
theorem WE.slNS {a b : CE} (h : WE P Φ ρ .v a st (fun x st => WE P Φ ρ .v b st (fun y st => ∃ i, y = .int i ∧ WO (slF st x none (some i)) fun z => Q z st) X) X) : WE P Φ ρ .v (.sl a none (some b)) st Q X := ⟨by
  rw [evalM, fin_v]; exact RQ.bd (h.h.mono (fun x st z => by
    simp only [evalO, R.bd_ok]
    exact RQ.bd (RQ.bd (z.h.mono (fun y st ⟨i, e, z⟩ => by subst e; exact RQ.int (WO.opt z)) fun _ _ _ z => z))) fun _ _ _ z => z)⟩
theorem WE.slSN {a b : CE} (h : WE P Φ ρ .v a st (fun x st => WE P Φ ρ .v b st (fun y st => ∃ i, y = .int i ∧ WO (slF st x (some i) none) fun z => Q z st) X) X) : WE P Φ ρ .v (.sl a (some b) none) st Q X := ⟨by
  rw [evalM, fin_v]; exact RQ.bd (h.h.mono (fun x st z => by
    simp only [evalO]
    exact RQ.bd (RQ.bd (z.h.mono (fun y st ⟨i, e, z⟩ => by subst e; exact RQ.int (WO.opt z)) fun _ _ _ z => z))) fun _ _ _ z => z)⟩
theorem WE.slSS {a b c : CE} (h : WE P Φ ρ .v a st (fun x st => WE P Φ ρ .v b st (fun y st => ∃ i, y = .int i ∧ WE P Φ ρ .v c st (fun y st => ∃ j, y = .int j ∧ WO (slF st x (some i) (some j)) fun z => Q z st) X) X) X) : WE P Φ ρ .v (.sl a (some b) (some c)) st Q X := ⟨by
  rw [evalM, fin_v]; exact RQ.bd (h.h.mono (fun x st z => by
    simp only [evalO]
    exact RQ.bd (RQ.bd (z.h.mono (fun y st ⟨i, e, z⟩ => by subst e; exact RQ.int (RQ.bd (RQ.bd (z.h.mono (fun y st ⟨i, e, z⟩ => by subst e; exact RQ.int (WO.opt z)) fun _ _ _ z => z)))) fun _ _ _ z => z))) fun _ _ _ z => z)⟩
theorem WE.prim {p : Prim} {es : List CE} (h : WEs P Φ ρ es st (fun xs st => WO (primF p xs st) fun z => Q z st) X) : WE P Φ ρ .v (.prim p es) st Q X := ⟨by
  rw [evalM, fin_v]; exact RQ.bd (h.h.mono (fun x st z => WO.opt z) fun _ _ _ z => z)⟩
/-- a method of a built-in thing -/
structure WM (m : Meth) (x : D) (xs : List D) (st : Store) (Q : D → Store → Prop) (X : QX) : Prop where
  h : RQ (methF m x xs st) Q X
theorem WE.meth {m : Meth} {o : CE} {es : List CE} (h : WE P Φ ρ .v o st (fun x st => recvOk m x st = true ∧ WEs P Φ ρ es st (fun xs st => WM m x xs st Q X) X) X) : WE P Φ ρ .v (.meth m o es) st Q X := ⟨by
  rw [evalM, fin_v]; exact RQ.bd (h.h.mono (fun x st ⟨z1, z2⟩ => by rw [if_pos z1]; exact RQ.bd (z2.h.mono (fun _ _ z => z.h) fun _ _ _ z => z)) fun _ _ _ z => z)⟩
theorem WE.call {f : String} {es : List CE} (hf : P.glob.contains f = true) (h : WEs P Φ ρ es st (fun xs st => WC Φ f xs st Q X) X) : WE P Φ ρ .v (.call f es) st Q X := ⟨by
  rw [evalM, if_pos hf, fin_v]; exact RQ.bd (h.h.mono (fun _ _ z => z.h) fun _ _ _ z => z)⟩
theorem WE.callK {f : String} {es : List CE} {ks : List String} {pm : List Nat} {kes : List CE} (hf : (P.glob.contains f && (P.kw f).contains (es.length, ks, pm)) = true) (h : WEs P Φ ρ es st (fun xs st => WEs P Φ ρ kes st (fun ws st => WC Φ f (xs ++ permW pm ws) st Q X) X) X) : WE P Φ ρ .v (.callK f es ks pm kes) st Q X := ⟨by
  rw [evalM, if_pos hf, fin_v]; exact RQ.bd (h.h.mono (fun _ _ z => RQ.bd (z.h.mono (fun _ _ z => z.h) fun _ _ _ z => z)) fun _ _ _ z => z)⟩
structure WN (Φ : Calls) (f c : String) (m : Bool) (xs : List D) (st : Store) (Q : D → Store → Prop) (X : QX) : Prop where
  h : RQ (newK Φ f c m xs st) Q X
theorem WE.new {c f : String} {m : Bool} {es : List CE} (hf : ((P.cl c).bind fun k => k.meths.lookup "__init__") = some f) (h : WEs P Φ ρ es st (fun xs st => WN Φ f c m xs st Q X) X) : WE P Φ ρ .v (.new c m es) st Q X := ⟨by
  rw [evalM]
  simp only [hf, fin_v]
  exact RQ.bd (h.h.mono (fun _ _ z => z.h) fun _ _ _ z => z)⟩
theorem WE.newK {c f : String} {m : Bool} {es : List CE} {ks : List String} {pm : List Nat} {kes : List CE} (hf : ((P.cl c).bind fun k => k.meths.lookup "__init__") = some f) (hk : (P.kw f).contains (es.length + 1, ks, pm) = true) (h : WEs P Φ ρ es st (fun xs st => WEs P Φ ρ kes st (fun ws st => WN Φ f c m (xs ++ permW pm ws) st Q X) X) X) : WE P Φ ρ .v (.newK c m es ks pm kes) st Q X := ⟨by
  rw [evalM]
  simp only [hf, hk, fin_v, if_true]
  exact RQ.bd (h.h.mono (fun _ _ z => RQ.bd (z.h.mono (fun _ _ z => z.h) fun _ _ _ z => z)) fun _ _ _ z => z)⟩
theorem WE.ometh {m : String} {o : CE} {es : List CE} (h : WE P Φ ρ .v o st (fun x st => WO (findM P x m st) fun f => WEs P Φ ρ es st (fun xs st => WC Φ f (x :: xs) st Q X) X) X) : WE P Φ ρ .v (.ometh o m es) st Q X := ⟨by
  rw [evalM, fin_v]; exact RQ.bd (h.h.mono (fun x st z => by
    obtain ⟨f, e, z⟩ := z.h
    rw [e]; exact RQ.bd (z.h.mono (fun _ _ z => z.h) fun _ _ _ z => z)) fun _ _ _ z => z)⟩
structure WA (P : Prog) (Φ : Calls) (f : String) (x : D) (st : Store) (Q : D → Store → Prop) (X : QX) : Prop where
  h : RQ (attrK P Φ f x st) Q X
theorem WA.eq {f : String} {x d : D} (e : attrK P Φ f x st = .ok d st) (h : Q d st) : WA P Φ f x st Q X := ⟨by rw [e]; exact h⟩
theorem WE.attr {o : CE} {f : String} (h : WE P Φ ρ .v o st (fun x st => WA P Φ f x st Q X) X) : WE P Φ ρ .v (.attr o f) st Q X := ⟨by
  rw [evalM, fin_v]; exact RQ.bd (h.h.mono (fun x st z => z.h) fun _ _ _ z => z)⟩
theorem WE.isi {a : CE} {ts : List Ty} (ht : ts.all (tyOk P) = true) (h : WE P Φ ρ .v a st (fun x st => clsKnown P x st = true ∧ WO (anyTy x st ts) fun b => Q (.bl b) st) X) : WE P Φ ρ .v (.isi a ts) st Q X := ⟨by
  rw [evalM, if_pos ht, fin_v]; exact RQ.bd (h.h.mono (fun x st ⟨z1, z2⟩ => by rw [if_pos z1]; exact WO.optM z2) fun _ _ _ z => z)⟩
theorem WE.fmt {a : CE} (h : WE P Φ ρ .v a st (fun x st => WO (fmtF x) fun z => Q (.str z) st) X) : WE P Φ ρ .v (.fmt a) st Q X := ⟨by
  rw [evalM, fin_v]; exact RQ.bd (h.h.mono (fun x st z => WO.optM z) fun _ _ _ z => z)⟩
theorem WE.fstr {es : List CE} (h : WFs P Φ ρ es Str.empty st Q X) : WE P Φ ρ .v (.fstr es) st Q X := ⟨by
  rw [evalM, fin_v]; exact h.h⟩
theorem WFs.nil {acc : Str} (h : Q (.str acc) st) : WFs P Φ ρ [] acc st Q X := ⟨by rw [evalFs]; exact h⟩
theorem WFs.cons {e : CE} {es : List CE} {acc : Str} (h : WE P Φ ρ .v e st (fun x st => ∃ y, x = .str y ∧ (acc ++ y).length ≤ LINE ∧ WFs P Φ ρ es (acc ++ y) st Q X) X) : WFs P Φ ρ (e :: es) acc st Q X := ⟨by
  rw [evalFs]; exact RQ.bd (h.h.mono (fun x st ⟨y, e, z1, z2⟩ => by subst e; rw [partK, if_pos z1]; exact z2.h) fun _ _ _ z => z)⟩
structure WZ (d : D) (st : Store) (Q : D → Store → Prop) (X : QX) : Prop where
  h : RQ (freeze d st) Q X
theorem WE.frz {a : CE} (h : WE P Φ ρ .v a st (fun x st => WZ x st Q X) X) : WE P Φ ρ .v (.frz a) st Q X := ⟨by
  rw [evalM, fin_v]; exact RQ.bd (h.h.mono (fun x st z => z.h) fun _ _ _ z => z)⟩
theorem WE.dct0 {n : Nat} (hn : LenAt st n) (h : Q (.own n) (st ++ [.dct []])) : WE P Φ ρ .v .dct0 st Q X := ⟨by rw [evalM, fin_v, newCell, hn.eq]; exact h⟩
theorem WE.oeq {ng : Bool} {a b : CE} (h : WE P Φ ρ .v a st (fun x st => WE P Φ ρ .v b st (fun y st => WO (eqM P ng x y st) fun f => WC Φ f [x, y] st (fun d st => ∃ k, d = .bl k ∧ Q (.bl (k != ng)) st) nox) X) X) : WE P Φ ρ .v (.oeq ng a b) st Q X := ⟨by
  rw [evalM, fin_v]; exact RQ.bd (h.h.mono (fun x st z => RQ.bd (z.h.mono (fun y st z => by
    obtain ⟨f, e, z⟩ := z.h
    rw [e, methK_some]
    have z := z.h
    cases e2 : Φ f [x, y] st with
    | ok d s => rw [e2] at z; obtain ⟨k, rfl, z⟩ := z; exact z
    | exn c vs s => rw [e2] at z; exact z.elim
    | stuck => rw [e2] at z; exact z.elim) fun _ _ _ z => z)) fun _ _ _ z => z)⟩
theorem WE.ostr {a : CE} (h : WE P Φ ρ .v a st (fun x st => WO (findM P x "__str__" st) fun f => WC Φ f [x] st (fun d st => ∃ s, d = .str s ∧ Q (.str s) st) nox) X) : WE P Φ ρ .v (.ostr a) st Q X := ⟨by
  rw [evalM, fin_v]; exact RQ.bd (h.h.mono (fun x st z => by
    obtain ⟨f, e, z⟩ := z.h
    rw [e, methK_some]
    have z := z.h
    cases e2 : Φ f [x] st with
    | ok d s => rw [e2] at z; obtain ⟨k, rfl, z⟩ := z; exact z
    | exn c vs s => rw [e2] at z; exact z.elim
    | stuck => rw [e2] at z; exact z.elim) fun _ _ _ z => z)⟩
theorem WE.orepr {a : CE} (h : WE P Φ ρ .v a st (fun x st => WO (findM P x "__repr__" st) fun f => WC Φ f [x] st (fun d st => ∃ s, d = .str s ∧ Q (.str s) st) nox) X) : WE P Φ ρ .v (.orepr a) st Q X := ⟨by
  rw [evalM, fin_v]; exact RQ.bd (h.h.mono (fun x st z => by
    obtain ⟨f, e, z⟩ := z.h
    rw [e, methK_some]
    have z := z.h
    cases e2 : Φ f [x] st with
    | ok d s => rw [e2] at z; obtain ⟨k, rfl, z⟩ := z; exact z
    | exn c vs s => rw [e2] at z; exact z.elim
    | stuck => rw [e2] at z; exact z.elim) fun _ _ _ z => z)⟩
theorem WE.obool {a : CE} (h : WE P Φ ρ .v a st (fun x st => flagOf P x st "tru" = true ∧ Q (.bl true) st) X) : WE P Φ ρ .v (.obool a) st Q X := ⟨by
  rw [evalM, fin_v]; exact RQ.bd (h.h.mono (fun x st ⟨z1, z2⟩ => by rw [if_pos z1]; exact z2) fun _ _ _ z => z)⟩
theorem WE.rng {es : List CE} (h : WEs P Φ ρ es st (fun xs st => WO (rngF xs) fun l => Q (packI (l, [])) st) X) : WE P Φ ρ .i (.rng es) st Q X := ⟨by
  rw [evalM]; exact RQ.bd (h.h.mono (fun x st z => WO.optM z) fun _ _ _ z => z)⟩
theorem WE.enu {es : List CE} (h : WEs P Φ ρ es st (fun xs st => WO (xs.mapM (iterSq st)) fun l => WO (enuK l) fun z => Q z st) X) : WE P Φ ρ .i (.enu es) st Q X := ⟨by
  rw [evalM]; exact RQ.bd (h.h.mono (fun x st z => by
    obtain ⟨l, e, z⟩ := z.h
    refine WO.opt ?_
    rw [e]; exact z) fun _ _ _ z => z)⟩
theorem WE.zip {es : List CE} (h : WEs P Φ ρ es st (fun xs st => WO (xs.mapM (iterSq st)) fun l => WO (zipK l) fun z => Q z st) X) : WE P Φ ρ .i (.zip es) st Q X := ⟨by
  rw [evalM]; exact RQ.bd (h.h.mono (fun x st z => by
    obtain ⟨l, e, z⟩ := z.h
    refine WO.opt ?_
    rw [e]; exact z) fun _ _ _ z => z)⟩
/-- the walk of a comprehension: what is met, what must stay -/
structure WL (P : Prog) (Φ : Calls) (ρ : Env) (m : Bool) (elt : CE) (tg : Tg) (ifs : List CE) (k : D) (st : Store) (Q : D → Store → Prop) (X : QX) : Prop where
  h : RQ (seqK (fun xs gs st => (compL (lcStep (fun ρ' st => evalIfs P Φ ρ' ifs st) (fun ρ' st => evalM P Φ ρ' .v elt st) tg ρ) gs xs [] st).bd (mkLst m)) k st) Q X
theorem WE.lc {m : Bool} {own : List Nat} {elt it : CE} {tg : Tg} {ifs : List CE} {ρ' : Env} (w : WipeAt ρ own ρ') (h : WE P Φ ρ .i it st (fun k st => WL P Φ ρ' m elt tg ifs k st Q X) X) : WE P Φ ρ .v (.lc m own elt tg it ifs) st Q X := ⟨by
  rw [evalM, fin_v, w.eq]; exact RQ.bd (h.h.mono (fun x st z => z.h) fun _ _ _ z => z)⟩
end
structure PS where
  nx : Env → Store → Prop := fun _ _ => False
  rt : D → Store → Prop := fun _ _ => False
  bk : Env → Store → Prop := fun _ _ => False
  ct : Env → Store → Prop := fun _ _ => False
  x : String → List D → Env → Store → Prop := fun _ _ _ _ => False
def RS' (s : SR) (K : PS) : Prop := match s with
  | .nx ρ st => K.nx ρ st
  | .rt d st => K.rt d st
  | .bk ρ st => K.bk ρ st
  | .ct ρ st => K.ct ρ st
  | .exn c vs ρ st => K.x c vs ρ st
  | .stuck => False
theorem RS'.then {s : SR} {f : Env → Store → SR} {K : PS} (h : RS' s { K with nx := fun ρ st => RS' (f ρ st) K }) : RS' (s.then f) K := by
  cases s <;> exact h
theorem RS'.of {α : Type} {ρ : Env} {r : R α} {f : α → Store → SR} {K : PS} (h : RQ r (fun a st => RS' (f a st) K) (fun c vs st => K.x c vs ρ st)) : RS' (SR.of ρ r f) K := by
  cases r <;> exact h
structure WS (P : Prog) (Φ : Calls) (s : CS) (ρ : Env) (st : Store) (K : PS) : Prop where
  h : RS' (evalS P Φ s ρ st) K
structure WSs (P : Prog) (Φ : Calls) (ss : List CS) (ρ : Env) (st : Store) (K : PS) : Prop where
  h : RS' (evalSs P Φ ss ρ st) K
section
variable {P : Prog} {Φ : Calls} {ρ : Env} {st : Store} {K : PS}
theorem WSs.nil (h : K.nx ρ st) : WSs P Φ [] ρ st K := ⟨by rw [evalSs]; exact h⟩
theorem WSs.cons {s : CS} {ss : List CS} (h : WS P Φ s ρ st { K with nx := fun ρ st => WSs P Φ ss ρ st K }) : WSs P Φ (s :: ss) ρ st K := ⟨by
  rw [evalSs]
  refine RS'.then ?_
  have := h.h
  cases e : evalS P Φ s ρ st <;> rw [e] at this <;> first | exact this.h | exact this⟩
/-- a statement, and what holds behind it -/
theorem WSs.cut {s : CS} {ss : List CS} (J : Env → Store → Prop) (h : WS P Φ s ρ st { K with nx := J }) (k : ∀ ρ st, J ρ st → WSs P Φ ss ρ st K) : WSs P Φ (s :: ss) ρ st K := .cons ⟨by
  have h := h.h
  cases e : evalS P Φ s ρ st <;> rw [e] at h <;> first | exact k _ _ h | exact h⟩
theorem WSs.weak {ss : List CS} (J : Env → Store → Prop) (h : WSs P Φ ss ρ st { K with nx := J }) (k : ∀ ρ st, J ρ st → K.nx ρ st) : WSs P Φ ss ρ st K := ⟨by
  have h := h.h
  cases e : evalSs P Φ ss ρ st <;> rw [e] at h <;> first | exact k _ _ h | exact h⟩
/-- two branches that meet; the names stay -/
theorem brS {p : Prop} [Decidable p] {a b : List CS} (J : Store → Prop) (h1 : p → WSs P Φ a ρ st { K with nx := fun ρ' st' => ρ' = ρ ∧ J st' }) (h2 : ¬ p → WSs P Φ b ρ st { K with nx := fun ρ' st' => ρ' = ρ ∧ J st' }) (k : ∀ st, J st → K.nx ρ st) :
    (decide p = true → WSs P Φ a ρ st K) ∧ (decide p = false → WSs P Φ b ρ st K) :=
  ⟨fun z => (h1 (of_decide_eq_true z)).weak _ fun _ _ ⟨e, j⟩ => by subst e; exact k _ j, fun z => (h2 (of_decide_eq_false z)).weak _ fun _ _ ⟨e, j⟩ => by subst e; exact k _ j⟩
/-- two branches that meet -/
theorem brJ {p : Prop} [Decidable p] {a b : List CS} (J : Env → Store → Prop) (h1 : p → WSs P Φ a ρ st { K with nx := J }) (h2 : ¬ p → WSs P Φ b ρ st { K with nx := J }) (k : ∀ ρ st, J ρ st → K.nx ρ st) :
    (decide p = true → WSs P Φ a ρ st K) ∧ (decide p = false → WSs P Φ b ρ st K) :=
  ⟨fun z => (h1 (of_decide_eq_true z)).weak _ k, fun z => (h2 (of_decide_eq_false z)).weak _ k⟩
theorem WS.set {tg : Tg} {e : CE} (h : WE P Φ ρ .v e st (fun d st => WB st tg d ρ fun ρ' => K.nx ρ' st) fun c vs st => K.x c vs ρ st) : WS P Φ (.set tg e) ρ st K := ⟨by
  rw [evalS]; exact RS'.of (h.h.mono (fun d st z => by
    obtain ⟨ρ', e, z⟩ := z.h
    simp only [e]; exact z) fun _ _ _ z => z)⟩
inductive SetM : List Nat → List D → Env → Env → Prop
  | n {ρ : Env} : SetM [] [] ρ ρ
  | c {i : Nat} {is : List Nat} {d : D} {ds : List D} {ρ ρ1 ρ2 : Env} (h : SetAt ρ i (some d) ρ1) (g : SetM is ds ρ1 ρ2) : SetM (i :: is) (d :: ds) ρ ρ2
theorem SetM.eq {is : List Nat} {ds : List D} {ρ ρ' : Env} (h : SetM is ds ρ ρ') : setMany is ds ρ = some ρ' := by
  induction h with
  | n => rfl
  | c h g ih => rw [setMany, if_pos h.set.1, h.set.2]; exact ih
theorem WS.par {is : List Nat} {es : List CE} (h : WEs P Φ ρ es st (fun ds st => ∃ ρ', SetM is ds ρ ρ' ∧ K.nx ρ' st) fun c vs st => K.x c vs ρ st) : WS P Φ (.par is es) ρ st K := ⟨by
  rw [evalS]; exact RS'.of (h.h.mono (fun d st ⟨ρ', e, z⟩ => by simp only [e.eq]; exact z) fun _ _ _ z => z)⟩
theorem WS.setItem {o i e : CE} (h : WE P Φ ρ .v e st (fun d st => WE P Φ ρ .v o st (fun x st => WE P Φ ρ .v i st (fun y st => WO (storeItem x y d st) fun st => K.nx ρ st) fun c vs st => K.x c vs ρ st) fun c vs st => K.x c vs ρ st) fun c vs st => K.x c vs ρ st) : WS P Φ (.setItem o i e) ρ st K := ⟨by
  rw [evalS]; exact RS'.of (h.h.mono (fun d st z => RS'.of (z.h.mono (fun x st z => RS'.of (z.h.mono (fun y st z => by
    obtain ⟨st', e, z⟩ := z.h
    simp only [e]; exact z) fun _ _ _ z => z)) fun _ _ _ z => z)) fun _ _ _ z => z)⟩
theorem WS.setAttr {o : CE} {f : String} {e : CE} (h : WE P Φ ρ .v e st (fun d st => WE P Φ ρ .v o st (fun x st => WO (storeAttr P x f d st) fun st => K.nx ρ st) fun c vs st => K.x c vs ρ st) fun c vs st => K.x c vs ρ st) : WS P Φ (.setAttr o f e) ρ st K := ⟨by
  rw [evalS]; exact RS'.of (h.h.mono (fun d st z => RS'.of (z.h.mono (fun x st z => by
    obtain ⟨st', e, z⟩ := z.h
    simp only [e]; exact z) fun _ _ _ z => z)) fun _ _ _ z => z)⟩
theorem WS.aug {i : Nat} {o : Op2} {e : CE} {x : D} (g : GetAt ρ i x) (h : WE P Φ ρ .v e st (fun y st => WO (augF o x y) fun d => ∃ ρ', SetAt ρ i (some d) ρ' ∧ K.nx ρ' st) fun c vs st => K.x c vs ρ st) : WS P Φ (.augVar i o e) ρ st K := ⟨by
  rw [evalS, g.get]; exact RS'.of (h.h.mono (fun d st z => by
    obtain ⟨st', e, ρ', s, z⟩ := z.h
    simp only [e]
    rw [if_pos s.set.1, s.set.2]; exact z) fun _ _ _ z => z)⟩
theorem WS.expr {e : CE} (h : WE P Φ ρ .v e st (fun _ st => K.nx ρ st) fun c vs st => K.x c vs ρ st) : WS P Φ (.expr e) ρ st K := ⟨by
  rw [evalS]; exact RS'.of h.h⟩
theorem WS.ret {e : CE} (h : WE P Φ ρ .v e st (fun d st => K.rt d st) fun c vs st => K.x c vs ρ st) : WS P Φ (.ret e) ρ st K := ⟨by
  rw [evalS]; exact RS'.of h.h⟩
theorem WS.retN (h : K.rt .non st) : WS P Φ .retN ρ st K := ⟨by rw [evalS]; exact h⟩
theorem WS.pass (h : K.nx ρ st) : WS P Φ .pass ρ st K := ⟨by rw [evalS]; exact h⟩
theorem WS.brk (h : K.bk ρ st) : WS P Φ .brk ρ st K := ⟨by rw [evalS]; exact h⟩
theorem WS.cont (h : K.ct ρ st) : WS P Φ .cont ρ st K := ⟨by rw [evalS]; exact h⟩
theorem WS.ifS {t : CE} {a b : List CS} (h : WE P Φ ρ .t t st (fun k st => ∃ c, k = .bl c ∧ (c = true → WSs P Φ a ρ st K) ∧ (c = false → WSs P Φ b ρ st K)) fun c vs st => K.x c vs ρ st) : WS P Φ (.ifS t a b) ρ st K := ⟨by
  rw [evalS]; exact RS'.of (h.h.mono (fun k st ⟨c, e, z1, z2⟩ => by
    subst e
    cases c with
    | true => exact (z1 rfl).h
    | false => exact (z2 rfl).h) fun _ _ _ z => z)⟩
theorem WS.raise {c : String} {es : List CE} (h : WEs P Φ ρ es st (fun ds st => K.x c ds ρ st) fun c vs st => K.x c vs ρ st) : WS P Φ (.raise c es) ρ st K := ⟨by
  rw [evalS]; exact RS'.of h.h⟩
/-- the walk of a for -/
structure WF (P : Prog) (Φ : Calls) (tg : Tg) (body : List CS) (k : D) (ρ : Env) (st : Store) (K : PS) : Prop where
  h : RS' (itK k fun xs gs => forL (fun x ρ st => match bindT st tg x ρ with
      | some ρ' => evalSs P Φ body ρ' st
      | none => .stuck) gs xs ρ st) K
theorem WS.forS {tg : Tg} {it : CE} {body : List CS} (h : WE P Φ ρ .i it st (fun k st => WF P Φ tg body k ρ st K) fun c vs st => K.x c vs ρ st) : WS P Φ (.forS tg it body) ρ st K := ⟨by
  rw [evalS]; exact RS'.of (h.h.mono (fun k st z => z.h) fun _ _ _ z => z)⟩
/-- a for by an invariant over what was met and what is left -/
theorem WF.inv {α : Type} {tg : Tg} {body : List CS} {l : List α} {g : α → D} {gs : List D} (J : List α → List α → Env → Store → Prop)
    (h0 : J [] l ρ st) (hg : ∀ dn rs ρ st, J dn rs ρ st → guardOk st gs = true)
    (hs : ∀ dn x rs ρ st, l = dn ++ x :: rs → J dn (x :: rs) ρ st → WB st tg (g x) ρ fun ρ' => WSs P Φ body ρ' st { K with nx := J (dn ++ [x]) rs, ct := J (dn ++ [x]) rs, bk := K.nx })
    (he : ∀ ρ st, J l [] ρ st → K.nx ρ st) : WF P Φ tg body (packI (l.map g, gs)) ρ st K := ⟨by
  show RS' (forL _ gs (l.map g) ρ st) K
  suffices H : ∀ rs dn ρ st, l = dn ++ rs → J dn rs ρ st → RS' (forL (fun x ρ st => match bindT st tg x ρ with
      | some ρ' => evalSs P Φ body ρ' st
      | none => .stuck) gs (rs.map g) ρ st) K from H l [] ρ st rfl h0
  intro rs
  induction rs with
  | nil =>
    intro dn ρ st e j
    rw [List.append_nil] at e
    subst e
    simp only [List.map_nil, forL, hg _ _ _ _ j, if_true]
    exact he ρ st j
  | cons x rs ih =>
    intro dn ρ st e j
    simp only [List.map_cons, forL, hg _ _ _ _ j, if_true]
    obtain ⟨ρ', e1, z⟩ := (hs dn x rs ρ st e j).h
    rw [e1]
    have z := z.h
    dsimp only
    have e' : l = (dn ++ [x]) ++ rs := by rw [e]; simp
    cases q : evalSs P Φ body ρ' st with
    | nx ρ2 st2 => rw [q] at z; exact ih _ _ _ e' z
    | ct ρ2 st2 => rw [q] at z; exact ih _ _ _ e' z
    | bk ρ2 st2 => rw [q] at z; exact z
    | rt d st2 => rw [q] at z; exact z
    | exn c vs ρ2 st2 => rw [q] at z; exact z
    | stuck => rw [q] at z; exact z⟩
/-- a while by a measure -/
theorem WS.while {t : CE} {body : List CS} (J : Nat → Env → Store → Prop) {n : Nat} (hn : n < P.lim) (h0 : J n ρ st)
    (hs : ∀ n ρ st, J n ρ st → WE P Φ ρ .t t st (fun k st => ∃ c, k = .bl c ∧ (c = true → WSs P Φ body ρ st { K with nx := fun ρ st => ∃ m, m < n ∧ J m ρ st, ct := fun ρ st => ∃ m, m < n ∧ J m ρ st, bk := K.nx }) ∧ (c = false → K.nx ρ st)) fun c vs st => K.x c vs ρ st) : WS P Φ (.whileS t body) ρ st K := ⟨by
  rw [evalS]
  suffices H : ∀ L n ρ st, n < L → J n ρ st → RS' (whileL (fun ρ st => evalM P Φ ρ .t t st) (fun ρ st => evalSs P Φ body ρ st) L ρ st) K from H _ _ _ _ hn h0
  intro L
  induction L with
  | zero => intro n ρ st h; omega
  | succ L ih =>
    intro n ρ st hl j
    rw [whileL]
    refine RS'.of ((hs n ρ st j).h.mono (fun k st' z => ?_) fun _ _ _ z => z)
    obtain ⟨c, rfl, z1, z2⟩ := z
    cases c with
    | false => exact z2 rfl
    | true =>
      have z := (z1 rfl).h
      dsimp only
      cases q : evalSs P Φ body ρ st' with
      | nx ρ2 st2 => rw [q] at z; obtain ⟨m, hm, z⟩ := z; exact ih _ _ _ (by omega) z
      | ct ρ2 st2 => rw [q] at z; obtain ⟨m, hm, z⟩ := z; exact ih _ _ _ (by omega) z
      | bk ρ2 st2 => rw [q] at z; exact z
      | rt d st2 => rw [q] at z; exact z
      | exn c vs ρ2 st2 => rw [q] at z; exact z
      | stuck => rw [q] at z; exact z⟩
/-- a call, by its body -/
theorem WC.body {n : Nat} {f : String} {F : FnC} {vs : List D} {Q : D → Store → Prop} {X : QX} (hF : P.fn f = some F) (hl : vs.length = F.np)
    (h : WSs P (callF P n) F.body (startE F.ns vs) st { nx := fun _ st' => Q .non (trim st.length .non st'), rt := fun d st' => Q d (trim st.length d st'), x := fun c vs _ st => X c vs st }) : WC (callF P (n + 1)) f vs st Q X := ⟨by
  simp only [callF, hF, if_pos hl]
  have z := h.h
  cases q : evalSs P (callF P n) F.body (startE F.ns vs) st <;> rw [q] at z <;> exact z⟩
end

section
variable {P : Prog} {Φ : Calls} {ρ : Env} {st : Store} {Q : D → Store → Prop} {X : QX}
theorem noExn_RQ {α : Type} {r : R α} {Q : α → Store → Prop} {X : QX} (h : RQ r Q nox) : RQ (noExn r) Q X := by
  cases r with
  | ok a st => exact h
  | exn c vs st => exact h.elim
  | stuck => exact h.elim
/-- one element -/
structure WIf (P : Prog) (Φ : Calls) (ρ : Env) (ifs : List CE) (st : Store) (Q : Bool → Store → Prop) : Prop where
  h : RQ (evalIfs P Φ ρ ifs st) (fun k st => ∃ b, k = .bl b ∧ Q b st) nox
theorem WIf.nil {Q : Bool → Store → Prop} (h : Q true st) : WIf P Φ ρ [] st Q := ⟨by rw [evalIfs]; exact ⟨true, rfl, h⟩⟩
theorem WIf.one {e : CE} {Q : Bool → Store → Prop} (h : WE P Φ ρ .t e st (fun k st => ∃ b, k = .bl b ∧ Q b st) nox) : WIf P Φ ρ [e] st Q := ⟨by rw [evalIfs]; exact h.h⟩
theorem WL.inv {α : Type} {m : Bool} {elt : CE} {tg : Tg} {ifs : List CE} {l : List α} {g : α → D} {gs : List D} (J : List α → List α → List D → Store → Prop)
    (h0 : J [] l [] st) (hg : ∀ dn rs acc st, J dn rs acc st → guardOk st gs = true)
    (hs : ∀ dn x rs acc st, l = dn ++ x :: rs → J dn (x :: rs) acc st → acc.length < LINE ∧ WB st tg (g x) ρ fun ρ' => WIf P Φ ρ' ifs st fun b st => (b = false → J (dn ++ [x]) rs acc st) ∧ (b = true → WE P Φ ρ' .v elt st (fun d st => J (dn ++ [x]) rs (acc ++ [d]) st) nox))
    (he : ∀ acc st, J l [] acc st → RQ (mkLst m acc st) Q X) : WL P Φ ρ m elt tg ifs (packI (l.map g, gs)) st Q X := ⟨by
  rw [seqK_pack]
  show RQ ((compL _ gs (l.map g) [] st).bd (mkLst m)) Q X
  suffices H : ∀ rs dn acc st, l = dn ++ rs → J dn rs acc st → RQ (compL (lcStep (fun ρ' st => evalIfs P Φ ρ' ifs st) (fun ρ' st => evalM P Φ ρ' .v elt st) tg ρ) gs (rs.map g) acc st) (fun acc st => RQ (mkLst m acc st) Q X) X from RQ.bd (H l [] [] st rfl h0)
  intro rs
  induction rs with
  | nil =>
    intro dn acc st e j
    rw [List.append_nil] at e
    subst e
    simp only [List.map_nil, compL, hg _ _ _ _ j, if_true]
    exact he acc st j
  | cons x rs ih =>
    intro dn acc st e j
    simp only [List.map_cons, compL, hg _ _ _ _ j, if_true]
    obtain ⟨hl, ⟨ρ', e1, z⟩⟩ := hs dn x rs acc st e j
    have e' : l = (dn ++ [x]) ++ rs := by rw [e]; simp
    refine RQ.bd ?_
    simp only [lcStep, e1]
    refine noExn_RQ (RQ.bd (z.h.mono (fun k st2 z => ?_) fun _ _ _ z => z))
    obtain ⟨b, rfl, z1, z2⟩ := z
    cases b with
    | false => exact ih _ _ _ e' (z1 rfl)
    | true =>
      refine RQ.bd ((z2 rfl).h.mono (fun d st3 z => ?_) fun _ _ _ z => z)
      rw [if_pos hl]
      exact ih _ _ _ e' z⟩
/-- a comprehension without tests whose elements only read -/
theorem WL.map {α : Type} {elt : CE} {tg : Tg} {l : List α} {g h : α → D} {m : Bool}
    (he : ∀ x, x ∈ l → WB st tg (g x) ρ fun ρ' => WE P Φ ρ' .v elt st (fun d st' => d = h x ∧ st' = st) nox) (hl : l.length ≤ LINE)
    (k : RQ (mkLst m (l.map h) st) Q X) : WL P Φ ρ m elt tg [] (packI (l.map g, [])) st Q X := by
  refine WL.inv (fun dn rs acc st' => acc = dn.map h ∧ st' = st) ⟨rfl, rfl⟩ (fun _ _ _ _ _ => rfl) (fun dn x rs acc st' e j => ?_) (fun acc st' j => ?_)
  · obtain ⟨rfl, rfl⟩ := j
    refine ⟨?_, ?_⟩
    · have := congrArg List.length e
      simp at this ⊢; omega
    · obtain ⟨ρ', e1, z⟩ := (he x (by rw [e]; simp)).h
      exact ⟨⟨ρ', e1, .nil ⟨fun z => (nomatch z), fun _ => ⟨z.h.mono (fun d st2 ⟨a, b⟩ => ⟨by rw [a, List.map_append]; rfl, b⟩) fun _ _ _ z => z⟩⟩⟩⟩
  · obtain ⟨rfl, rfl⟩ := j; exact k
theorem WL.filt {α : Type} {elt c : CE} {tg : Tg} {l : List α} {g h : α → D} {p : α → Bool} {m : Bool}
    (he : ∀ x, x ∈ l → WB st tg (g x) ρ fun ρ' => WE P Φ ρ' .t c st (fun d st' => d = .bl (p x) ∧ st' = st ∧ (p x = true → WE P Φ ρ' .v elt st (fun d st' => d = h x ∧ st' = st) nox)) nox) (hl : l.length ≤ LINE)
    (k : RQ (mkLst m ((l.filter p).map h) st) Q X) : WL P Φ ρ m elt tg [c] (packI (l.map g, [])) st Q X := by
  refine WL.inv (fun dn rs acc st' => acc = (dn.filter p).map h ∧ st' = st) ⟨rfl, rfl⟩ (fun _ _ _ _ _ => rfl) (fun dn x rs acc st' e j => ?_) (fun acc st' j => ?_)
  · obtain ⟨rfl, rfl⟩ := j
    refine ⟨?_, ?_⟩
    · have := congrArg List.length e
      have h2 := List.length_filter_le p dn
      simp at this ⊢; omega
    · obtain ⟨ρ', e1, z⟩ := (he x (by rw [e]; simp)).h
      refine ⟨⟨ρ', e1, .one ⟨z.h.mono (fun d st2 ⟨a, b, z⟩ => ⟨p x, a, ?_, ?_⟩) fun _ _ _ z => z⟩⟩⟩
      · intro hp; subst b; exact ⟨by rw [List.filter_append]; simp [hp], rfl⟩
      · intro hp; subst b; exact ⟨(z hp).h.mono (fun d st2 ⟨a, b⟩ => ⟨by rw [a, List.filter_append]; simp [hp], b⟩) fun _ _ _ z => z⟩
  · obtain ⟨rfl, rfl⟩ := j; exact k
theorem mk_f {xs : List D} (hl : xs.length ≤ LINE) (h : Q (.lst xs) st) : RQ (mkLst false xs st) Q X := by rw [mkLst, if_pos hl]; exact h
theorem mk_t {xs : List D} {n : Nat} (hl : xs.length ≤ LINE) (hn : LenAt st n) (h : Q (.own n) (st ++ [.lst xs])) : RQ (mkLst true xs st) Q X := by rw [mkLst, if_pos hl, if_pos rfl, newCell, hn.eq]; exact h
end
end MP
end

section
set_option linter.all false
set_option autoImplicit false
set_option maxHeartbeats 1000000
namespace MP
open PySem
theorem LINE_ge : 1000000 ≤ LINE := by unfold LINE; decide
theorem LINE_of {n : Nat} (h : Nat.ble n 1000000 = true) : n ≤ LINE := Nat.le_trans (Nat.le_of_ble_eq_true h) LINE_ge
theorem LINE_m {n : Nat} (h : n ≤ 1000000) : n ≤ LINE := Nat.le_trans h LINE_ge
theorem LINE_ml {n : Nat} (h : n < 1000000) : n < LINE := Nat.lt_of_lt_of_le h LINE_ge
theorem bigOk_of {i : Int} (h : i.natAbs < 10 ^ 60) : bigOk i = true := by
  unfold bigOk
  rw [decide_eq_true_eq]
  exact Nat.lt_trans h (by unfold BIG; decide +kernel)
theorem bigOk_of' {i : Int} (h : i.natAbs < 10 ^ 1000) : bigOk i = true := by
  unfold bigOk
  rw [decide_eq_true_eq]
  exact Nat.lt_trans h (by unfold BIG; decide +kernel)
/-- |i| < 10 ^ n -/
def Bd (n : Nat) (i : Int) : Prop := i.natAbs < 10 ^ n
theorem Bd.big {n : Nat} {i : Int} (h : Bd n i) (hn : n ≤ 1000) : bigOk i = true := bigOk_of' (Nat.lt_of_lt_of_le h (Nat.pow_le_pow_right (by decide) hn))
theorem Bd.mono {n m : Nat} {i : Int} (h : Bd n i) (hn : n ≤ m) : Bd m i := Nat.lt_of_lt_of_le h (Nat.pow_le_pow_right (by decide) hn)
theorem Bd.mul {n m : Nat} {i j : Int} (h : Bd n i) (g : Bd m j) : Bd (n + m) (i * j) := by
  unfold Bd at *
  rw [Int.natAbs_mul, Nat.pow_add]
  exact Nat.mul_lt_mul'' h g
theorem Bd.add {n : Nat} {i j : Int} (h : Bd n i) (g : Bd n j) : Bd (n + 1) (i + j) := by
  unfold Bd at *
  have := Int.natAbs_add_le i j
  rw [Nat.pow_succ]; omega
theorem Bd.sub {n : Nat} {i j : Int} (h : Bd n i) (g : Bd n j) : Bd (n + 1) (i - j) := by
  unfold Bd at *
  have := Int.natAbs_sub_le i j
  rw [Nat.pow_succ]; omega
theorem Bd.neg {n : Nat} {i : Int} (h : Bd n i) : Bd n (-i) := by unfold Bd at *; rwa [Int.natAbs_neg]
theorem Bd.sum {n k : Nat} : ∀ {l : List Int}, (∀ x ∈ l, Bd n x) → l.length ≤ 10 ^ k → Bd (n + k) l.sum := by
  intro l h hl
  have key : l.sum.natAbs ≤ l.length * (10 ^ n - 1) := by
    clear hl
    induction l with
    | nil => simp
    | cons x l ih =>
      have h1 : x.natAbs < 10 ^ n := h x List.mem_cons_self
      have h2 := ih fun y hy => h y (List.mem_cons_of_mem _ hy)
      have h3 := Int.natAbs_add_le x l.sum
      rw [List.sum_cons, List.length_cons, Nat.add_mul, Nat.one_mul]
      omega
  unfold Bd
  have h1 : l.length * (10 ^ n - 1) ≤ 10 ^ k * (10 ^ n - 1) := Nat.mul_le_mul_right _ hl
  have h2 : 0 < 10 ^ k := Nat.pow_pos (by decide)
  have h3 : 0 < 10 ^ n := Nat.pow_pos (by decide)
  rw [Nat.pow_add, Nat.mul_comm (10 ^ n)]
  calc l.sum.natAbs ≤ 10 ^ k * (10 ^ n - 1) := Nat.le_trans key h1
    _ < 10 ^ k * 10 ^ n := Nat.mul_lt_mul_of_pos_left (by omega) h2
section
variable {α : Type} {Q : α → Prop}
theorem exBl {Q : Bool → Prop} {b : Bool} (h : Q b) : ∃ k, D.bl b = .bl k ∧ Q k := ⟨b, rfl, h⟩
theorem exInt {Q : Int → Prop} {b : Int} (h : Q b) : ∃ k, D.int b = .int k ∧ Q k := ⟨b, rfl, h⟩
theorem exStr {Q : Str → Prop} {b : Str} (h : Q b) : ∃ k, D.str b = .str k ∧ Q k := ⟨b, rfl, h⟩
variable {A B : Prop}
theorem brT (h : A) : (true = true → A) ∧ (true = false → B) := ⟨fun _ => h, fun z => (nomatch z)⟩
theorem brF (h : B) : (false = true → A) ∧ (false = false → B) := ⟨fun z => (nomatch z), fun _ => h⟩
theorem brT' (h : A) : (true = false → B) ∧ (true = true → A) := ⟨fun z => (nomatch z), fun _ => h⟩
theorem brF' (h : B) : (false = false → B) ∧ (false = true → A) := ⟨fun _ => h, fun z => (nomatch z)⟩
theorem brD {p : Prop} [Decidable p] (h1 : p → A) (h2 : ¬ p → B) : (decide p = true → A) ∧ (decide p = false → B) := ⟨fun z => h1 (of_decide_eq_true z), fun z => h2 (of_decide_eq_false z)⟩
theorem brD' {p : Prop} [Decidable p] (h1 : ¬ p → B) (h2 : p → A) : (decide p = false → B) ∧ (decide p = true → A) := ⟨fun z => h1 (of_decide_eq_false z), fun z => h2 (of_decide_eq_true z)⟩
theorem brP {b : Bool} (e : b = true) (h : A) : (b = true → A) ∧ (b = false → B) := ⟨fun _ => h, fun z => by rw [e] at z; cases z⟩
theorem brN {b : Bool} (e : b = false) (h : B) : (b = true → A) ∧ (b = false → B) := ⟨fun z => (by rw [e] at z; cases z), fun _ => h⟩
theorem brP' {b : Bool} (e : b = true) (h : A) : (b = false → B) ∧ (b = true → A) := ⟨fun z => (by rw [e] at z; cases z), fun _ => h⟩
theorem brN' {b : Bool} (e : b = false) (h : B) : (b = false → B) ∧ (b = true → A) := ⟨fun _ => h, fun z => by rw [e] at z; cases z⟩
theorem brX {p : Prop} [Decidable p] (h1 : ¬ p → A) (h2 : p → B) : ((!decide p) = true → A) ∧ ((!decide p) = false → B) := ⟨fun z => h1 (by simpa using z), fun z => h2 (by simpa using z)⟩
theorem brX' {p : Prop} [Decidable p] (h1 : p → B) (h2 : ¬ p → A) : ((!decide p) = false → B) ∧ ((!decide p) = true → A) := ⟨fun z => h1 (by simpa using z), fun z => h2 (by simpa using z)⟩
theorem brC {b : Bool} (h1 : b = true → A) (h2 : b = false → B) : (b = true → A) ∧ (b = false → B) := ⟨h1, h2⟩
theorem brC' {b : Bool} (h1 : b = false → A) (h2 : b = true → B) : (b = false → A) ∧ (b = true → B) := ⟨h1, h2⟩
end
class LitN (k : Int) (n : outParam Nat) : Prop where
  h : k = (n : Int)
instance {n : Nat} : LitN (no_index (OfNat.ofNat n : Int)) (OfNat.ofNat n) := ⟨rfl⟩
section
variable {Q : D → Prop}
theorem WO.mul {i j : Int} (hi : bigOk i = true) (hj : bigOk j = true) (h : Q (.int (i * j))) : WO (binF .mul (.int i) (.int j)) Q := ⟨⟨_, by simp [binF, hi, hj], h⟩⟩
theorem WO.fdiv {i j : Int} (hi : 0 < j) (hj : bigOk j = true) (h : Q (.int (i / j))) : WO (binF .fdiv (.int i) (.int j)) Q := ⟨⟨_, by simp [binF, hi, hj], h⟩⟩
theorem WO.mod {i j : Int} (hi : 0 < j) (h : Q (.int (i % j))) : WO (binF .mod (.int i) (.int j)) Q := ⟨⟨_, by simp [binF, hi], h⟩⟩
theorem WO.p10 {k : Int} {n : Nat} [l : LitN k n] (hn : Nat.ble n 1000 = true) (h : Q (.int (10 ^ n))) : WO (binF .pow (.int 10) (.int k)) Q := by
  have := Nat.le_of_ble_eq_true hn
  obtain rfl := l.h
  refine ⟨⟨_, ?_, h⟩⟩
  have a : ((n : Int) ≤ 1000) := by omega
  simp [binF, a]
theorem WO.addS {a b : Str} (hl : a.length + b.length ≤ LINE) (h : Q (.str (a ++ b))) : WO (binF .add (.str a) (.str b)) Q := ⟨⟨_, by simp [binF, hl], h⟩⟩
theorem WO.addL {a b : List D} (hl : a.length + b.length ≤ LINE) (h : Q (.lst (a ++ b))) : WO (binF .add (.lst a) (.lst b)) Q := ⟨⟨_, by simp [binF, hl], h⟩⟩
theorem WO.addT {a b : List D} (hl : a.length + b.length ≤ LINE) (h : Q (.tup (a ++ b))) : WO (binF .add (.tup a) (.tup b)) Q := ⟨⟨_, by simp [binF, hl], h⟩⟩
variable {st : Store} {Qb : Bool → Prop}
theorem eqF_int (a b : Int) : eqF (.int a) (.int b) = some (decide (a = b)) := by
  have : (a == b) = decide (a = b) := by by_cases h : a = b <;> simp [h]
  simp [eqF, D.py, PyData.canLay0, PyData.depth, PyData.eqv, this]
theorem WO.eqI {a b : Int} (h : Qb (decide (a = b))) : WO (cmpF st .eq (.int a) (.int b)) Qb := ⟨⟨_, eqF_int a b, h⟩⟩
theorem WO.neI {a b : Int} (h : Qb (decide (a ≠ b))) : WO (cmpF st .ne (.int a) (.int b)) Qb := ⟨⟨_, by
  show (eqF (.int a) (.int b)).map not = _
  rw [eqF_int]
  by_cases e : a = b <;> simp [e], h⟩⟩
theorem WO.eqS {a b : Str} (h : Qb (a == b)) : WO (cmpF st .eq (.str a) (.str b)) Qb := ⟨⟨_, rfl, h⟩⟩
theorem WO.neS {a b : Str} (h : Qb (!(a == b))) : WO (cmpF st .ne (.str a) (.str b)) Qb := ⟨⟨_, rfl, h⟩⟩
theorem WO.min2 {a b : Int} (h : Q (.int (min a b))) : WO (primF .min [.int a, .int b] st) Q := ⟨⟨_, by
  show some (D.int (if b < a then b else a)) = some (.int (min a b))
  congr 2; split <;> omega, h⟩⟩
theorem WO.max2 {a b : Int} (h : Q (.int (max a b))) : WO (primF .max [.int a, .int b] st) Q := ⟨⟨_, by
  show some (D.int (if b > a then b else a)) = some (.int (max a b))
  congr 2; split <;> omega, h⟩⟩
theorem WO.abs1 {a : Int} (h : Q (.int (a.natAbs : Int))) : WO (primF .abs [.int a] st) Q := ⟨⟨_, by
  show some (D.int (if a < 0 then -a else a)) = some (.int _)
  congr 2; split <;> omega, h⟩⟩
theorem intsOf_map {α : Type} {f : α → Int} : ∀ l : List α, intsOf (l.map fun x => .int (f x)) = some (l.map f)
  | [] => rfl
  | x :: l => by simp [intsOf, intsOf_map l]
theorem boolsOf_map {α : Type} {f : α → Bool} : ∀ l : List α, boolsOf (l.map fun x => .bl (f x)) = some (l.map f)
  | [] => rfl
  | x :: l => by simp [boolsOf, boolsOf_map l]
theorem strsOf_map {α : Type} {f : α → Str} : ∀ l : List α, strsOf (l.map fun x => .str (f x)) = some (l.map f)
  | [] => rfl
  | x :: l => by simp [strsOf, strsOf_map l]
theorem WO.sumL {α : Type} {f : α → Int} {l : List α} (h : Q (.int (l.map f).sum)) : WO (primF .sum [.lst (l.map fun x => .int (f x))] st) Q := ⟨⟨_, by
  show (intsOf _).map _ = _
  rw [intsOf_map]; rfl, h⟩⟩
theorem WO.allL {α : Type} {f : α → Bool} {l : List α} (h : Q (.bl (l.all f))) : WO (primF .all [.lst (l.map fun x => .bl (f x))] st) Q := ⟨⟨_, by
  show (boolsOf _).map _ = _
  rw [boolsOf_map]; simp [List.all_map, Function.comp_def], h⟩⟩
theorem WO.anyL {α : Type} {f : α → Bool} {l : List α} (h : Q (.bl (l.any f))) : WO (primF .any [.lst (l.map fun x => .bl (f x))] st) Q := ⟨⟨_, by
  show (boolsOf _).map _ = _
  rw [boolsOf_map]; simp [List.any_map, Function.comp_def], h⟩⟩
theorem WO.lenL {xs : List D} (h : Q (.int xs.length)) : WO (primF .len [.lst xs] st) Q := ⟨⟨_, rfl, h⟩⟩
theorem WO.lenM {α : Type} {f : α → D} {l : List α} (h : Q (.int l.length)) : WO (primF .len [.lst (l.map f)] st) Q := ⟨⟨_, by rw [← List.length_map (f := f)]; rfl, h⟩⟩
theorem WO.lenTM {α : Type} {f : α → D} {l : List α} (h : Q (.int l.length)) : WO (primF .len [.tup (l.map f)] st) Q := ⟨⟨_, by rw [← List.length_map (f := f)]; rfl, h⟩⟩
theorem WO.lenS {s : Str} (hs : s.length ≤ LINE) (h : Q (.int s.length)) : WO (primF .len [.str s] st) Q := ⟨⟨_, by simp [primF, hs], h⟩⟩
theorem WO.strI {i : Int} (hi : i.natAbs.log2 < 1920) (h : Q (.str (toString i))) : WO (primF .str [.int i] st) Q := ⟨⟨_, by simp [primF, hi], h⟩⟩
theorem WO.repr {d : D} {t : Str} (hd : shown (look st d) = some t) (h : Q (.str t)) : WO (primF .repr [d] st) Q := ⟨⟨_, by simp [primF, hd], h⟩⟩
theorem rng_eq {n : Nat} (h : n < 2 ^ 62) : rngF [.int (n : Int)] = some ((List.range n).map fun (k : Nat) => .int (k : Int)) := by
  have h1 : (-(2 ^ 62) ≤ (n : Int)) := by omega
  have h2 : ((n : Int) < 2 ^ 62) := by omega
  simp only [rngF, h1, h2, decide_true, Bool.and_self, if_true, Int.toNat_natCast, Int.zero_add]
theorem WO.rngN {n : Nat} {Q : List D → Prop} (hn : n < 2 ^ 62) (h : Q ((List.range n).map fun (k : Nat) => .int (k : Int))) : WO (rngF [.int (n : Int)]) Q := ⟨⟨_, rng_eq hn, h⟩⟩
theorem WO.rngL {k : Int} {n : Nat} [l : LitN k n] {Q : List D → Prop} (hn : n < 2 ^ 62) (h : Q ((List.range n).map fun (k : Nat) => .int (k : Int))) : WO (rngF [.int k]) Q := ⟨⟨_, by rw [l.h, rng_eq hn], h⟩⟩
theorem atF_map {α β : Type} {l : List α} {g : α → β} {k : Nat} {x : α} (hx : l[k]? = some x) : atF (l.map g) (k : Int) = some (g x) := by
  have hl := (List.getElem?_eq_some_iff.mp hx).1
  unfold atF ixF
  rw [if_pos (by omega), if_pos (by rw [List.length_map]; omega)]
  simp [hx]
theorem atF_nat {α : Type} {xs : List α} {i : Int} {j : Nat} {x : α} (hi : i = j) (hx : xs[j]? = some x) : atF xs i = some x := by
  subst hi
  have hl := (List.getElem?_eq_some_iff.mp hx).1
  unfold atF ixF
  rw [if_pos (by omega), if_pos (by omega)]
  simpa using hx
theorem WO.itemM {α : Type} {l : List α} {g : α → D} {k : Nat} {x : α} (hx : l[k]? = some x) (h : Q (g x)) : WO (itemF st (.lst (l.map g)) (.int (k : Int))) Q := ⟨⟨_, atF_map hx, h⟩⟩
theorem WO.itemTM {α : Type} {l : List α} {g : α → D} {k : Nat} {x : α} (hx : l[k]? = some x) (h : Q (g x)) : WO (itemF st (.tup (l.map g)) (.int (k : Int))) Q := ⟨⟨_, atF_map hx, h⟩⟩
theorem WO.itemL {xs : List D} {i : Int} {k : Nat} {x : D} (hk : i = (k : Int)) (hx : xs[k]? = some x) (h : Q x) : WO (itemF st (.lst xs) (.int i)) Q := ⟨⟨_, atF_nat hk hx, h⟩⟩
theorem WO.itemT {xs : List D} {i : Int} {k : Nat} {x : D} (hk : i = (k : Int)) (hx : xs[k]? = some x) (h : Q x) : WO (itemF st (.tup xs) (.int i)) Q := ⟨⟨_, atF_nat hk hx, h⟩⟩
end

inductive LSet {α : Type} : List α → Nat → α → List α → Prop
  | z {a d : α} {ρ : List α} : LSet (a :: ρ) 0 d (d :: ρ)
  | s {a d : α} {ρ ρ' : List α} {i : Nat} (h : LSet ρ i d ρ') : LSet (a :: ρ) (i + 1) d (a :: ρ')
theorem LSet.set {α : Type} {ρ ρ' : List α} {i : Nat} {d : α} (h : LSet ρ i d ρ') : i < ρ.length ∧ ρ.set i d = ρ' := by
  induction h with
  | z => exact ⟨by simp, rfl⟩
  | s _ ih => exact ⟨by simp [ih.1], by simp [ih.2]⟩

structure CellAt (S : Store) (n : Nat) (c : Cell) : Prop where
  h : S[n]? = some c
theorem CellAt.last {S : Store} {n : Nat} {c : Cell} (h : LenAt S n) : CellAt (S ++ [c]) n c := ⟨by rw [← h.eq]; simp⟩
theorem CellAt.lt {S : Store} {n : Nat} {c : Cell} (h : CellAt S n c) : n < S.length := (List.getElem?_eq_some_iff.mp h.h).1
theorem CellAt.skip {S : Store} {n : Nat} {c d : Cell} (h : CellAt S n c) : CellAt (S ++ [d]) n c := ⟨by rw [List.getElem?_append_left h.lt]; exact h.h⟩
structure CellSet (S : Store) (n : Nat) (c : Cell) (S' : Store) : Prop where
  h : S.set n c = S' ∧ n < S.length
theorem CellSet.last {S : Store} {n : Nat} {c c' : Cell} (h : LenAt S n) : CellSet (S ++ [c]) n c' (S ++ [c']) := ⟨by rw [← h.eq]; simp⟩
theorem CellSet.skip {S S' : Store} {n : Nat} {c d : Cell} (h : CellSet S n c S') : CellSet (S ++ [d]) n c (S' ++ [d]) := ⟨by rw [List.set_append_left _ _ h.h.2, h.h.1, List.length_append]; exact ⟨rfl, by have := h.h.2; omega⟩⟩
theorem CellSet.base {S : Store} {n : Nat} {c d : Cell} (h : CellAt S n d) : CellSet S n c (S.set n c) := ⟨rfl, h.lt⟩
def Stay (st : Store) : Prop := st.all (Cell.clean st.length) = true
inductive Pre (S : Store) : Store → Prop
  | refl : Pre S S
  | snoc {T : Store} {c : Cell} (h : Pre S T) : Pre S (T ++ [c])
theorem Pre.ex {S T : Store} (h : Pre S T) : ∃ t, T = S ++ t := by
  induction h with
  | refl => exact ⟨[], by simp⟩
  | snoc _ ih => obtain ⟨t, rfl⟩ := ih; exact ⟨t ++ [_], by rw [List.append_assoc]⟩
theorem trim_pre {S T : Store} {n : Nat} {d : D} (hp : Pre S T) (hn : S.length = n) (hd : d.clean n = true) (hs : Stay S) : trim n d T = S := by
  obtain ⟨t, rfl⟩ := hp.ex
  subst hn
  unfold trim
  rw [List.take_left' rfl, hd]
  unfold Stay at hs
  rw [hs]; rfl
theorem trim_same {n : Nat} {d : D} {st : Store} (h : st.length = n) : trim n d st = st := by
  unfold trim
  split
  · rw [List.take_of_length_le (by omega)]
  · rfl
mutual
/-- nothing of the store in it -/
def D.plain : D → Bool
  | .tup xs => D.plains xs
  | .lst xs => D.plains xs
  | .obj _ _ vs => D.plains vs
  | .own _ => false
  | _ => true
def D.plains : List D → Bool
  | [] => true
  | x :: xs => D.plain x && D.plains xs
end
mutual
theorem plain_clean {n : Nat} : ∀ {d : D}, d.plain = true → d.clean n = true
  | .non, _ => rfl
  | .bl _, _ => rfl
  | .int _, _ => rfl
  | .str _, _ => rfl
  | .tup xs, h => by rw [D.plain] at h; rw [D.clean]; exact plains_clean h
  | .lst xs, h => by rw [D.plain] at h; rw [D.clean]; exact plains_clean h
  | .obj _ _ vs, h => by rw [D.plain] at h; rw [D.clean]; exact plains_clean h
  | .own _, h => by simp [D.plain] at h
  | .cls _, _ => rfl
theorem plains_clean {n : Nat} : ∀ {xs : List D}, D.plains xs = true → D.cleans n xs = true
  | [], _ => rfl
  | x :: xs, h => by
    rw [D.plains, Bool.and_eq_true] at h
    rw [D.cleans, plain_clean h.1, plains_clean h.2]; rfl
end
theorem plains_iff : ∀ {xs : List D}, D.plains xs = true ↔ ∀ x ∈ xs, x.plain = true
  | [] => by simp [D.plains]
  | x :: xs => by simp [D.plains, plains_iff (xs := xs)]
theorem plains_map {α : Type} {g : α → D} {l : List α} (h : ∀ x, (g x).plain = true) : D.plains (l.map g) = true := by
  rw [plains_iff]
  intro x hx
  obtain ⟨y, _, rfl⟩ := List.mem_map.mp hx
  exact h y
mutual
theorem clean_mono {m n : Nat} (h : m ≤ n) : ∀ {d : D}, d.clean m = true → d.clean n = true
  | .non, _ => rfl
  | .bl _, _ => rfl
  | .int _, _ => rfl
  | .str _, _ => rfl
  | .cls _, _ => rfl
  | .own k, hc => by simp only [D.clean, decide_eq_true_eq] at hc ⊢; omega
  | .tup xs, hc => by rw [D.clean] at hc ⊢; exact cleans_mono h hc
  | .lst xs, hc => by rw [D.clean] at hc ⊢; exact cleans_mono h hc
  | .obj _ _ xs, hc => by rw [D.clean] at hc ⊢; exact cleans_mono h hc
theorem cleans_mono {m n : Nat} (h : m ≤ n) : ∀ {xs : List D}, D.cleans m xs = true → D.cleans n xs = true
  | [], _ => rfl
  | x :: xs, hc => by
    rw [D.cleans, Bool.and_eq_true] at hc ⊢
    exact ⟨clean_mono h hc.1, cleans_mono h hc.2⟩
end
theorem cell_mono {c : Cell} {m n : Nat} (h : m ≤ n) (hc : c.clean m = true) : c.clean n = true := by
  cases c with
  | lst xs => exact cleans_mono h hc
  | dct kvs => exact cleans_mono h hc
  | ins c fs => exact cleans_mono h hc
  | dead => rfl
def Cell.plain : Cell → Bool
  | .lst xs => D.plains xs
  | .dct kvs => D.plains (kvs.map (·.2))
  | .ins _ fs => D.plains (fs.map (·.2))
  | .dead => true
theorem cplain_clean {n : Nat} {c : Cell} (h : c.plain = true) : c.clean n = true := by
  cases c with
  | lst xs => exact plains_clean h
  | dct kvs => exact plains_clean h
  | ins c fs => exact plains_clean h
  | dead => rfl
theorem Stay.nil : Stay [] := rfl
theorem Stay.add' {st : Store} {c : Cell} (h : Stay st) (hc : c.clean (st.length + 1) = true) : Stay (st ++ [c]) := by
  unfold Stay at *
  rw [List.all_append, List.length_append, List.length_singleton]
  rw [List.all_eq_true] at h
  simp only [List.all_cons, List.all_nil, Bool.and_true, Bool.and_eq_true, List.all_eq_true]
  exact ⟨fun x hx => cell_mono (by omega) (h x hx), hc⟩
theorem Stay.add {st : Store} {c : Cell} (h : Stay st) (hc : c.plain = true) : Stay (st ++ [c]) := h.add' (cplain_clean hc)
theorem Stay.set {S : Store} {n : Nat} {c : Cell} (h : Stay S) (hc : c.plain = true) : Stay (S.set n c) := by
  unfold Stay at *
  rw [List.length_set]
  rw [List.all_eq_true] at h ⊢
  intro x hx
  rcases List.mem_or_eq_of_mem_set hx with hx | rfl
  · exact h x hx
  · exact cplain_clean hc
section
variable {st st' : Store} {n : Nat} {xs : List D} {Q : D → Store → Prop} {X : QX} {Qd : D → Prop}
theorem WM.append {d : D} (hc : CellAt st n (.lst xs)) (hl : xs.length < LINE) (hs : CellSet st n (.lst (xs ++ [d])) st') (h : Q .non st') : WM .append (.own n) [d] st Q X := ⟨by
  simp only [methF, hc.h, if_pos hl]
  rw [hs.h.1]; exact h⟩
theorem recv_own {m : Meth} (hc : CellAt st n (.lst xs)) (hm : methT m = "list") : recvOk m (.own n) st = true := by
  simp [recvOk, hc.h, hm]
theorem WO.itemO {i : Int} {k : Nat} {x : D} (hc : CellAt st n (.lst xs)) (hk : i = (k : Int)) (hx : xs[k]? = some x) (h : Qd x) : WO (itemF st (.own n) (.int i)) Qd := ⟨⟨x, by simp only [itemF, hc.h]; exact atF_nat hk hx, h⟩⟩
theorem WO.storeL {i : Int} {k : Nat} {d : D} {Q : Store → Prop} (hc : CellAt st n (.lst xs)) (hk : i = (k : Int)) (hl : k < xs.length) (hs : CellSet st n (.lst (xs.set k d)) st') (h : Q st') : WO (storeItem (.own n) (.int i) d st) Q := ⟨⟨st', by
  subst hk
  simp only [storeItem, hc.h, ixF]
  rw [if_pos (by omega), if_pos (by omega)]
  simp [← hs.h.1], h⟩⟩
theorem WO.itemOL {i : Int} {k : Nat} [l : LitN i k] {x : D} (hc : CellAt st n (.lst xs)) (hx : xs[k]? = some x) (h : Qd x) : WO (itemF st (.own n) (.int i)) Qd := .itemO hc l.h hx h
theorem WO.storeLL {i : Int} {k : Nat} [l : LitN i k] {d : D} {ys : List D} {Q : Store → Prop} (hc : CellAt st n (.lst xs)) (hl : LSet xs k d ys) (hs : CellSet st n (.lst ys) st') (h : Q st') : WO (storeItem (.own n) (.int i) d st) Q := .storeL hc l.h hl.set.1 (by rw [hl.set.2]; exact hs) h
theorem WO.lenO (hc : CellAt st n (.lst xs)) (h : Qd (.int xs.length)) : WO (primF .len [.own n] st) Qd := ⟨⟨_, by simp [primF, seqOf, hc.h], h⟩⟩
theorem WO.lenOM {α : Type} {l : List α} {f : α → D} (hc : CellAt st n (.lst (l.map f))) (h : Qd (.int l.length)) : WO (primF .len [.own n] st) Qd := .lenO hc (by rw [List.length_map]; exact h)
theorem WO.tupO (hc : CellAt st n (.lst xs)) (h : Qd (.tup xs)) : WO (primF .tuple [.own n] st) Qd := ⟨⟨_, by simp [primF, seqOf, hc.h], h⟩⟩
theorem WO.iterO {Q : List D × List D → Prop} (hc : CellAt st n (.lst xs)) (h : Q (xs, [.tup [.own n, .lst xs]])) : WO (iterOf st (.own n)) Q := ⟨⟨_, by simp [iterOf, hc.h], h⟩⟩
theorem WO.storeD {kvs : List (Sum Int Str × D)} {x d : D} {k : Sum Int Str} {Q : Store → Prop} (hc : CellAt st n (.dct kvs)) (hk : keyOf x = some k) (hl : kvs.length < LINE) (hs : CellSet st n (.dct (putD kvs k d)) st') (h : Q st') : WO (storeItem (.own n) x d st) Q := ⟨⟨st', by
  simp only [storeItem, hc.h, hk, Option.bind_some, if_pos hl, hs.h.1], h⟩⟩
theorem WO.inD {kvs : List (Sum Int Str × D)} {x : D} {k : Sum Int Str} {Q : Bool → Prop} (hc : CellAt st n (.dct kvs)) (hk : keyOf x = some k) (h : Q (valD kvs k).isSome) : WO (cmpF st .in_ x (.own n)) Q := ⟨⟨_, by
  show inC st x (.own n) = _
  simp only [inC, hc.h, hk]; rfl, h⟩⟩
theorem WO.notinD {kvs : List (Sum Int Str × D)} {x : D} {k : Sum Int Str} {Q : Bool → Prop} (hc : CellAt st n (.dct kvs)) (hk : keyOf x = some k) (h : Q (!(valD kvs k).isSome)) : WO (cmpF st .notin x (.own n)) Q := ⟨⟨_, by
  show (inC st x (.own n)).map not = _
  simp only [inC, hc.h, hk]; rfl, h⟩⟩
theorem WO.itemD {kvs : List (Sum Int Str × D)} {x d : D} {k : Sum Int Str} {Q : D → Prop} (hc : CellAt st n (.dct kvs)) (hk : keyOf x = some k) (hv : valD kvs k = some d) (h : Q d) : WO (itemF st (.own n) x) Q := ⟨⟨d, by
  cases x <;> simp_all [itemF, hc.h, keyOf], h⟩⟩
theorem WZ.lst (hc : CellAt st n (.lst xs)) (hs : CellSet st n .dead st') (h : Q (.lst xs) st') : WZ (.own n) st Q X := ⟨by
  simp only [freeze, hc.h]
  rw [hs.h.1]; exact h⟩
end
theorem CellAt.setS {S : Store} {n : Nat} {c d : Cell} (h : CellAt S n c) : CellAt (S.set n d) n d := ⟨by rw [List.getElem?_set_self h.lt]⟩
theorem CellAt.setN {S : Store} {n m : Nat} {c d : Cell} (hn : m ≠ n) (h : CellAt S n c) : CellAt (S.set m d) n c := ⟨by rw [List.getElem?_set_ne hn]; exact h.h⟩
theorem CellSet.setS {S : Store} {n : Nat} {c d x : Cell} (h : CellAt S n x) : CellSet (S.set n d) n c (S.set n c) := ⟨by rw [List.set_set], by rw [List.length_set]; exact h.lt⟩
theorem lenLit {α : Type} {xs : List α} {Q : Prop} (h : Nat.ble xs.length 1000000 = true) (q : Q) : xs.length ≤ LINE ∧ Q := ⟨LINE_of h, q⟩
inductive StartAt : Nat → List D → Env → Prop
  | z : StartAt 0 [] []
  | a {n : Nat} {v : D} {vs : List D} {ρ : Env} (h : StartAt n vs ρ) : StartAt (n + 1) (v :: vs) (some v :: ρ)
  | p {n : Nat} {ρ : Env} (h : StartAt n [] ρ) : StartAt (n + 1) [] (none :: ρ)
theorem StartAt.eq {n : Nat} {vs : List D} {ρ : Env} (h : StartAt n vs ρ) : startE n vs = ρ := by
  induction h with
  | z => rfl
  | a _ ih => simp [startE] at ih ⊢; exact ih
  | p _ ih => simp [startE, List.replicate_succ] at ih ⊢; exact ih
section
variable {P : Prog} {st : Store} {Q : D → Store → Prop} {X : QX}
theorem WC.go {n : Nat} {f : String} {F : FnC} {vs : List D} {ρ : Env} (hF : P.fn f = some F) (hl : vs.length = F.np) (hρ : StartAt F.ns vs ρ)
    (h : WSs P (callF P n) F.body ρ st { nx := fun _ st' => Q .non (trim st.length .non st'), rt := fun d st' => Q d (trim st.length d st'), x := fun c vs _ st => X c vs st }) : WC (callF P (n + 1)) f vs st Q X := .body hF hl (by rw [hρ.eq]; exact h)
end
end MP
namespace MP
open PySem
theorem len_app' (a b : Str) : (a ++ b).length = a.length + b.length := Array.size_append
section
variable {st : Store} {Q : D → Store → Prop} {X : QX}
theorem WM.join {α : Type} {l : List α} {f : α → Str} {a : Str} (hl : ((l.map f).map (·.length)).sum + l.length * a.length ≤ LINE) (h : Q (.str (Txt.join a (l.map f))) st) : WM .join (.str a) [.lst (l.map fun x => .str (f x))] st Q X := ⟨by
  have hl' : ((l.map f).map (·.length)).sum + (l.map f).length * a.length ≤ LINE := by rwa [List.length_map]
  simp only [methF, seqOf, strsOf_map]
  rw [if_pos hl']; exact h⟩
theorem WM.split {a b : Str} (hb : (b.length != 0) = true) (hl : a.length + 2 ≤ LINE) (h : Q (.lst ((Txt.split a b).map .str)) st) : WM .split (.str a) [.str b] st Q X := ⟨by
  simp only [methF, hb, hl, decide_true, Bool.and_true, if_true]; exact h⟩
end
theorem recvS {m : Meth} {s : Str} {st : Store} {Q : Prop} (h : methT m = "str") (q : Q) : recvOk m (.str s) st = true ∧ Q := ⟨by simp [recvOk, h], q⟩
theorem recvL {m : Meth} {s : List D} {st : Store} {Q : Prop} (h : methT m = "list") (q : Q) : recvOk m (.lst s) st = true ∧ Q := ⟨by simp [recvOk, h], q⟩
theorem recvO {m : Meth} {n : Nat} {xs : List D} {st : Store} {Q : Prop} (hc : CellAt st n (.lst xs)) (h : methT m = "list") (q : Q) : recvOk m (.own n) st = true ∧ Q := ⟨recv_own hc h, q⟩
theorem clsK {P : Prog} {x : D} {st : Store} {Q : Prop} (h : clsKnown P x st = true) (q : Q) : clsKnown P x st = true ∧ Q := ⟨h, q⟩
theorem appK {n : Nat} {xs : List D} {st st' : Store} {Q : D → Store → Prop} {X : QX} {d : D} (hc : CellAt st n (.lst xs)) (hl : xs.length < LINE) (hs : CellSet st n (.lst (xs ++ [d])) st') (h : Q .non st') : WM .append (.own n) [d] st Q X := .append hc hl hs h
theorem plain_tup {α : Type} {l : List α} {f : α → D} (h : ∀ x, (f x).plain = true) : (D.tup (l.map f)).plain = true := plains_map h
theorem plain_lst {α : Type} {l : List α} {f : α → D} (h : ∀ x, (f x).plain = true) : (D.lst (l.map f)).plain = true := plains_map h
section
variable {P : Prog} {Φ : Calls} {st st' : Store} {n : Nat} {Q : D → Store → Prop} {X : QX}
theorem WO.storeAttr {c f : String} {fs : List (String × D)} {k : ClC} {d : D} {Q : Store → Prop} (hc : CellAt st n (.ins c fs)) (hk : P.cl c = some k) (hl : (decide (fs.length < 900) && k.flds.contains f) = true) (hs : CellSet st n (.ins c (putFld f d fs)) st') (h : Q st') : WO (storeAttr P (.own n) f d st) Q := ⟨⟨st', by
  simp only [MP.storeAttr, hc.h, hk, hl, if_true, hs.h.1], h⟩⟩
theorem WN.frz {c f : String} {xs : List D} (h : WC Φ f (.own st.length :: xs) (st ++ [.ins c []]) (fun x st' => ∃ fs, x = .non ∧ st' = st ++ [.ins c fs] ∧ D.plains (fs.map (·.2)) = true ∧ Q (.obj c (fs.map (·.1)) (fs.map (·.2))) st) X) (hs : Stay st) : WN Φ f c false xs st Q X := ⟨by
  refine RQ.bd (h.h.mono (fun x st' z => ?_) fun _ _ _ z => z)
  obtain ⟨fs, rfl, rfl, hp, q⟩ := z
  have g : (st ++ [Cell.ins c fs])[st.length]? = some (.ins c fs) := by simp
  simp only [if_neg (Bool.false_ne_true), freeze, g, R.bd_ok]
  rw [List.set_append_right _ _ (Nat.le_refl _), Nat.sub_self, List.set_cons_zero, trim_pre (S := st) (Pre.snoc .refl) rfl (plain_clean (by rw [D.plain]; exact hp)) hs]
  exact q⟩
theorem WA.fld {c f : String} {ns : List String} {vs : List D} {k : ClC} {d : D} (hk : P.cl c = some k) (hp : k.props.lookup f = none) (hf : k.flds.contains f = true) (hd : (ns.zip vs).lookup f = some d) (h : Q d st) : WA P Φ f (.obj c ns vs) st Q X := ⟨by
  simp only [attrK, classOf, Option.bind_some, hk, hp, hf, if_true, fieldOf, hd]
  exact h⟩
theorem WA.prop {c f g : String} {ns : List String} {vs : List D} {k : ClC} (hk : P.cl c = some k) (hp : k.props.lookup f = some g) (h : WC Φ g [.obj c ns vs] st Q nox) : WA P Φ f (.obj c ns vs) st Q X := ⟨by
  simp only [attrK, classOf, Option.bind_some, hk, hp]
  exact noExn_RQ h.h⟩
theorem findM_obj {c f m : String} {ns : List String} {vs : List D} {k : ClC} (hk : P.cl c = some k) (hf : (ns.zip vs).lookup m = none) (hm : k.meths.lookup m = some f) : findM P (.obj c ns vs) m st = some f := by
  simp [findM, classOf, hk, fieldOf, hf, hm]
end
theorem cutF_map {α β : Type} {l : List α} {g : α → β} {lo hi : Option Int} : cutF (l.map g) lo hi = (cutF l lo hi).map g := by
  simp [cutF, List.map_take, List.map_drop]
section
variable {st : Store} {Q : D → Prop}
theorem WO.slM {α : Type} {l : List α} {g : α → D} {lo hi : Option Int} (h : Q (.lst ((cutF l lo hi).map g))) : WO (slF st (.lst (l.map g)) lo hi) Q := ⟨⟨_, by
  show some (D.lst (cutF (l.map g) lo hi)) = _
  rw [cutF_map], h⟩⟩
theorem WO.slTM {α : Type} {l : List α} {g : α → D} {lo hi : Option Int} (h : Q (.tup ((cutF l lo hi).map g))) : WO (slF st (.tup (l.map g)) lo hi) Q := ⟨⟨_, by
  show some (D.tup (cutF (l.map g) lo hi)) = _
  rw [cutF_map], h⟩⟩
theorem cutF_len {α : Type} (l : List α) (lo hi : Option Int) : (cutF l lo hi).length ≤ l.length := by
  simp [cutF]; omega
theorem mem_cutF {α : Type} {l : List α} {lo hi : Option Int} {x : α} (h : x ∈ cutF l lo hi) : x ∈ l := List.mem_of_mem_drop (List.mem_of_mem_take h)
end
theorem trim_dirty {n : Nat} {d : D} {st : Store} (h : d.clean n = false) : trim n d st = st := by
  unfold trim
  rw [h]; rfl
theorem WO.itemLL {st : Store} {Q : D → Prop} {xs : List D} {i : Int} {k : Nat} [l : LitN i k] {x : D} (hx : xs[k]? = some x) (h : Q x) : WO (itemF st (.lst xs) (.int i)) Q := .itemL l.h hx h
theorem WO.itemTL {st : Store} {Q : D → Prop} {xs : List D} {i : Int} {k : Nat} [l : LitN i k] {x : D} (hx : xs[k]? = some x) (h : Q x) : WO (itemF st (.tup xs) (.int i)) Q := .itemT l.h hx h
theorem WO.gMul {x y : D} {Q : D → Prop} (h : WO (binF .mul x y) Q) : WO (binF .mul x y) Q := h
theorem WO.gDiv {x y : D} {Q : D → Prop} (h : WO (binF .fdiv x y) Q) : WO (binF .fdiv x y) Q := h
theorem mapRR {d : D} {s : Store} : d = d ∧ s = s := ⟨rfl, rfl⟩
theorem WO.itemC {α : Type} {st : Store} {Q : D → Prop} {x : α} {xs : List α} {g : α → D} (h : Q (g x)) : WO (itemF st (.lst (List.map g (x :: xs))) (.int 0)) Q := .itemLL rfl h
theorem WO.itemTC {α : Type} {st : Store} {Q : D → Prop} {x : α} {xs : List α} {g : α → D} (h : Q (g x)) : WO (itemF st (.tup (List.map g (x :: xs))) (.int 0)) Q := .itemTL rfl h
section
variable {P : Prog} {Φ : Calls} {ρ : Env} {st : Store} {Q : D → Store → Prop} {X : QX}
theorem brI {p : Prop} [Decidable p] {a b : CE} {i j : Int} (h1 : p → WE P Φ ρ .v a st (fun d s => d = .int i ∧ s = st) X) (h2 : ¬ p → WE P Φ ρ .v b st (fun d s => d = .int j ∧ s = st) X) (q : Q (.int (if p then i else j)) st) :
    (decide p = true → WE P Φ ρ .v a st Q X) ∧ (decide p = false → WE P Φ ρ .v b st Q X) := by
  refine brD (fun h => ⟨?_⟩) (fun h => ⟨?_⟩)
  · rw [if_pos h] at q
    exact (h1 h).h.mono (fun d s ⟨e1, e2⟩ => by subst e1; subst e2; exact q) fun _ _ _ z => z
  · rw [if_neg h] at q
    exact (h2 h).h.mono (fun d s ⟨e1, e2⟩ => by subst e1; subst e2; exact q) fun _ _ _ z => z
theorem cutF_tl {α : Type} (x : α) (xs : List α) : cutF (x :: xs) (some 1) none = xs := by simp [cutF, sixF]
theorem cutF_hd {α : Type} (x : α) (xs : List α) : cutF (x :: xs) none (some 1) = [x] := by simp [cutF, sixF]
end
section
variable {P : Prog} {Φ : Calls} {ρ : Env} {st : Store} {K : PS}
theorem SetAt.self {ρ ρ' : Env} {i : Nat} {a : Option D} (h : SetAt ρ i a ρ') : ∃ b, ∀ {E : Option D → Env}, (∀ a, SetAt ρ i a (E a)) → ρ = E b := by
  refine ⟨(ρ[i]?).getD none, fun {E} hE => ?_⟩
  rw [← (hE _).set.2]
  have hl := h.set.1
  apply List.ext_getElem (by simp)
  intro k h1 h2
  by_cases hk : i = k
  · subst hk; simp [h1]
  · simp [List.getElem_set_ne hk]
/-- a for whose turns change nothing but the name of the item -/
theorem WF.each {α : Type} {i : Nat} {E : Option D → Env} {body : List CS} {l : List α} {g : α → D} {gs : List D} (hE : ∀ a, SetAt ρ i a (E a)) (hg : guardOk st gs = true)
    (hs : ∀ x ∈ l, WSs P Φ body (E (some (g x))) st { K with nx := fun ρ' st' => ρ' = E (some (g x)) ∧ st' = st, ct := fun ρ' st' => ρ' = E (some (g x)) ∧ st' = st, bk := K.nx }) (he : ∀ a, K.nx (E a) st) : WF P Φ (.var i) body (packI (l.map g, gs)) ρ st K := by
  obtain ⟨b, hb⟩ := (hE none).self
  refine WF.inv (fun _ _ ρ' st' => (∃ a, ρ' = E a) ∧ st' = st) ⟨⟨b, hb hE⟩, rfl⟩ (fun _ _ _ _ ⟨_, e⟩ => by rw [e]; exact hg) ?_ ?_
  · rintro dn x rs _ st e ⟨⟨a, rfl⟩, rfl⟩
    have hset : SetAt (E a) i (some (g x)) (E (some (g x))) := by
      have h1 := (hE a).set
      have h2 := (hE (some (g x))).set
      have key : ∀ {ρ1 ρ2 : Env} {c : Option D}, i < ρ1.length → ρ1.set i c = ρ2 → SetAt ρ1 i c ρ2 := by
        clear h1 h2 hs he hE hb
        induction i with
        | zero => intro ρ1 ρ2 c hl e; cases ρ1 with
          | nil => simp at hl
          | cons y ys => subst e; exact .z
        | succ i ih => intro ρ1 ρ2 c hl e; cases ρ1 with
          | nil => simp at hl
          | cons y ys => subst e; exact .s (ih (by simpa using hl) rfl)
      refine key (by rw [← h1.2, List.length_set]; exact h1.1) ?_
      rw [← h1.2, List.set_set, h2.2]
    refine .var hset ?_
    have z := (hs x (by rw [e]; simp)).h
    refine ⟨?_⟩
    cases q : evalSs P Φ body (E (some (g x))) st <;> rw [q] at z <;> first | exact ⟨⟨_, z.1⟩, z.2⟩ | exact z
  · rintro _ _ ⟨⟨a, rfl⟩, rfl⟩
    exact he a
end
/-- what a program holds -/
class Has (P : Prog) (f : String) (c : outParam FnC) : Prop where
  fn : P.fn f = some c
class HasF (P : Prog) (f : String) : Prop where
  gl : P.glob.contains f = true
class HasC (P : Prog) (c : String) (k : outParam ClC) : Prop where
  cl : P.cl c = some k
class HasG (P : Prog) (x : String) (d : outParam D) : Prop where
  gl : P.gl x = some d
class HasK (P : Prog) (f : String) (p : Pat) : Prop where
  kw : (P.kw f).contains p = true
end MP
namespace MP
/-- the length of a store -/
inductive LenIs : Store → Nat → Prop
  | base {S : Store} : LenIs S S.length
  | set {S : Store} {w n : Nat} {c : Cell} (h : LenIs S n) : LenIs (S.set w c) n
theorem LenIs.eq {S : Store} {n : Nat} (h : LenIs S n) : S.length = n := by
  induction h with
  | base => rfl
  | set _ ih => rw [List.length_set]; exact ih
structure WT (n : Nat) (d : D) (T : Store) (Q : Store → Prop) : Prop where
  h : Q (trim n d T)
theorem WT.same {n : Nat} {d : D} {T : Store} {Q : Store → Prop} (hl : LenIs T n) (h : Q T) : WT n d T Q := ⟨by rw [trim_same hl.eq]; exact h⟩
theorem WT.len {n : Nat} {d : D} {T : Store} {Q : Store → Prop} (hl : T.length = n) (h : Q T) : WT n d T Q := ⟨by rw [trim_same hl]; exact h⟩
theorem WT.pre {n : Nat} {d : D} {S T : Store} {Q : Store → Prop} (hp : Pre S T) (hn : LenIs S n) (hd : d.plain = true) (hs : Stay S) (h : Q S) : WT n d T Q := ⟨by rw [trim_pre hp hn.eq (plain_clean hd) hs]; exact h⟩
theorem WC.run {P : Prog} {st : Store} {Q : D → Store → Prop} {X : QX} {n : Nat} {f : String} {F : FnC} {vs : List D} {ρ : Env} [hf : Has P f F] (hl : vs.length = F.np) (hρ : StartAt F.ns vs ρ)
    (h : WSs P (callF P n) F.body ρ st { nx := fun _ st' => WT st.length .non st' (Q .non), rt := fun d st' => WT st.length d st' (Q d), x := fun c vs _ st => X c vs st }) : WC (callF P (n + 1)) f vs st Q X := by
  refine .go hf.fn hl hρ ?_
  have z := h.h
  refine ⟨?_⟩
  cases q : evalSs P (callF P n) F.body ρ st <;> rw [q] at z <;> first | exact z.h | exact z
/-- a well at w of which the draws of a call took -/
structure Dr (w : Nat) (S S' : Store) : Prop where
  h : ∃ c : Cell, S' = S.set w c ∧ c.plain = true
theorem Dr.len {w : Nat} {S S' : Store} (h : Dr w S S') : S'.length = S.length := by
  obtain ⟨c, rfl, _⟩ := h.h
  exact List.length_set
theorem Dr.trans {w : Nat} {S S1 S2 : Store} (h : Dr w S S1) (g : Dr w S1 S2) : Dr w S S2 := by
  obtain ⟨c, rfl, _⟩ := h.h
  obtain ⟨d, rfl, hd⟩ := g.h
  exact ⟨d, List.set_set .., hd⟩
theorem Dr.stay {w : Nat} {S S' : Store} (h : Dr w S S') (hs : Stay S) : Stay S' := by
  obtain ⟨c, rfl, hc⟩ := h.h
  exact hs.set hc
theorem Dr.snoc {w : Nat} {S S' : Store} {c : Cell} (h : Dr w (S ++ [c]) S') (hw : w < S.length) : ∃ T, S' = T ++ [c] ∧ Dr w S T := by
  obtain ⟨d, rfl, hd⟩ := h.h
  exact ⟨S.set w d, by rw [List.set_append_left _ _ hw], d, rfl, hd⟩
theorem Dr.cell {w n : Nat} {S S' : Store} {c : Cell} (h : Dr w S S') (hn : w ≠ n) (hc : CellAt S n c) : CellAt S' n c := by
  obtain ⟨d, rfl, _⟩ := h.h
  exact .setN hn hc
theorem LenIs.dr {w n : Nat} {S S' : Store} (h : Dr w S S') (g : LenIs S n) : LenIs S' n := by
  have : S'.length = n := by rw [h.len]; exact g.eq
  subst this; exact .base
end MP
end

section
set_option linter.all false
set_option autoImplicit false
namespace MP.C
open PySem L2 MP PyProof.Rows
def c_ProgrammeD_eqD : FnC := ⟨2, 2, [.ret (.and (.isi (.var 1) [.own "Programme"]) (.cmp .eq (.attr (.var 0) "wording") (.attr (.var 1) "wording")))]⟩
-- end
def c_ProgrammeD_initD : FnC := ⟨2, 3, [.set (.var 2) (.call "rows_in" [.var 1, .cst (.str (nmS "use")), .gc "MOST_USES", .tup [.gc "MOST_CELLS", .gc "MOST_MINUTES"]]),
  .ifS (.cmp .is_ (.var 2) (.cst .non)) [.never] [],
  .setAttr (.var 0) "wording" (.var 1),
  .setAttr (.var 0) "lines" (.var 2)]⟩
-- end
def c_ProgrammeD_reprD : FnC := ⟨1, 1, [.ret (.fstr [.cst (.str (nmS "Programme of ")), .fmt (.prim .len [.attr (.var 0) "lines"]), .cst (.str (nmS " uses"))])]⟩
-- end
def c_ProgrammeD_strD : FnC := ⟨1, 1, [.ret (.prim .str [.attr (.var 0) "wording"])]⟩
-- end
def c_Programme_cells : FnC := ⟨1, 2, [.ret (.prim .tuple [.lc false [1] (.item (.var 1) (.cst (.int 1))) (.var 1) (.attr (.var 0) "lines") []])]⟩
-- end
def c_Programme_minutes : FnC := ⟨1, 2, [.ret (.prim .tuple [.lc false [1] (.item (.var 1) (.cst (.int 2))) (.var 1) (.attr (.var 0) "lines") []])]⟩
-- end
def c_Programme_put : FnC := ⟨4, 4, [.expr (.call "_wall" [.cst (.int 0)])]⟩
-- end
def c_Programme_text : FnC := ⟨1, 1, [.ret (.attr (.var 0) "wording")]⟩
-- end
def c_Programme_uses : FnC := ⟨1, 2, [.ret (.prim .tuple [.lc false [1] (.item (.var 1) (.cst (.int 0))) (.var 1) (.attr (.var 0) "lines") []])]⟩
-- end
def c_Programme_without : FnC := ⟨2, 3, [.expr (.call "check_known" [.var 1, .attr (.var 0) "uses"]),
  .ifS (.cmp .eq (.prim .len [.attr (.var 0) "lines"]) (.cst (.int 1))) [.never] [],
  .ret (.new "Programme" false [.call "text_of" [.lc false [2] (.var 2) (.var 2) (.attr (.var 0) "lines") [.cmp .ne (.item (.var 2) (.cst (.int 0))) (.var 1)], .cst (.str (nmS "use"))]])]⟩
-- end
def c_StockD_eqD : FnC := ⟨2, 2, [.ret (.and (.isi (.var 1) [.own "Stock"]) (.cmp .eq (.attr (.var 0) "wording") (.attr (.var 1) "wording")))]⟩
-- end
def c_StockD_initD : FnC := ⟨2, 3, [.set (.var 2) (.call "rows_in" [.var 1, .cst (.str (nmS "class")), .gc "MOST_CLASSES", .tup [.gc "MOST_MINUTES", .gc "MOST_CELLS"]]),
  .ifS (.cmp .is_ (.var 2) (.cst .non)) [.never] [],
  .setAttr (.var 0) "wording" (.var 1),
  .setAttr (.var 0) "lines" (.var 2)]⟩
-- end
def c_StockD_reprD : FnC := ⟨1, 1, [.ret (.fstr [.cst (.str (nmS "Stock of ")), .fmt (.prim .len [.attr (.var 0) "lines"]), .cst (.str (nmS " classes"))])]⟩
-- end
def c_StockD_strD : FnC := ⟨1, 1, [.ret (.prim .str [.attr (.var 0) "wording"])]⟩
-- end
def c_Stock_charges : FnC := ⟨1, 2, [.ret (.prim .tuple [.lc false [1] (.item (.var 1) (.cst (.int 1))) (.var 1) (.attr (.var 0) "lines") []])]⟩
-- end
def c_Stock_counts : FnC := ⟨1, 2, [.ret (.prim .tuple [.lc false [1] (.item (.var 1) (.cst (.int 2))) (.var 1) (.attr (.var 0) "lines") []])]⟩
-- end
def c_Stock_kinds : FnC := ⟨1, 2, [.ret (.prim .tuple [.lc false [1] (.item (.var 1) (.cst (.int 0))) (.var 1) (.attr (.var 0) "lines") []])]⟩
-- end
def c_Stock_put : FnC := ⟨4, 4, [.expr (.call "_wall" [.cst (.int 0)])]⟩
-- end
def c_Stock_text : FnC := ⟨1, 1, [.ret (.attr (.var 0) "wording")]⟩
-- end
def c_Stock_without : FnC := ⟨2, 3, [.expr (.call "check_known" [.var 1, .attr (.var 0) "kinds"]),
  .ifS (.cmp .eq (.prim .len [.attr (.var 0) "lines"]) (.cst (.int 1))) [.never] [],
  .ret (.new "Stock" false [.call "text_of" [.lc false [2] (.var 2) (.var 2) (.attr (.var 0) "lines") [.cmp .ne (.item (.var 2) (.cst (.int 0))) (.var 1)], .cst (.str (nmS "class"))]])]⟩
-- end
def c__law_dip : FnC := ⟨2, 3, [.setItem (.var 0) (.cst (.int 2)) (.bin .add (.item (.var 0) (.cst (.int 2))) (.cst (.int 1))),
  .ifS (.cmp .gt (.item (.var 0) (.cst (.int 0))) (.cst (.int 0))) [.set (.var 2) (.bin .mod (.prim .int [.item (.var 0) (.cst (.int 0))]) (.var 1)),
  .setItem (.var 0) (.cst (.int 0)) (.bin .fdiv (.prim .int [.item (.var 0) (.cst (.int 0))]) (.var 1)),
  .ret (.var 2)] [],
  .setItem (.var 0) (.cst (.int 1)) (.bin .mod (.prim .int [.bin .add (.bin .add (.bin .mul (.item (.var 0) (.cst (.int 1))) (.cst (.int 16807))) (.bin .mul (.cst (.int 4993)) (.item (.var 0) (.cst (.int 2))))) (.cst (.int 17))]) (.cst (.int 2147483647))),
  .ret (.bin .mod (.prim .int [.bin .fdiv (.item (.var 0) (.cst (.int 1))) (.cst (.int 512))]) (.var 1))]⟩
-- end
def c__law_pick : FnC := ⟨2, 2, [.ret (.item (.var 1) (.call "_law_dip" [.var 0, .prim .len [.var 1]]))]⟩
-- end
def c__law_sheet : FnC := ⟨2, 3, [.ret (.meth .join (.cst (.str (nmS "\n"))) [.lc false [2] (.bin .add (.bin .add (.bin .add (.bin .add (.bin .add (.bin .add (.var 1) (.cst (.str (nmS " ")))) (.item (.var 2) (.cst (.int 0)))) (.cst (.str (nmS " ")))) (.prim .str [.item (.var 2) (.cst (.int 1))])) (.cst (.str (nmS " ")))) (.prim .str [.item (.var 2) (.cst (.int 2))])) (.var 2) (.var 0) []])]⟩
-- end
def c__law_stock : FnC := ⟨4, 6, [.set (.var 4) (.call "_law_terms" [.var 0, .bin .add (.cst (.int 1)) (.call "_law_dip" [.var 0, .var 1])]),
  .ret (.lc false [5] (.lst false [.var 5, .call "_law_up" [.var 0, .var 2], .call "_law_up" [.var 0, .var 3]]) (.var 5) (.var 4) [])]⟩
-- end
def c__law_terms : FnC := ⟨2, 6, [.set (.tup [.var 2, .var 3]) (.tup [.call "_law_dip" [.var 0, .cst (.int 7)], .bin .add (.cst (.int 1)) (.call "_law_dip" [.var 0, .cst (.int 6)])]),
  .set (.var 4) (.lst false [.cst (.str (nmS "class")), .cst (.str (nmS "use")), .cst (.str (nmS "a")), .cst (.str (nmS "full")), .cst (.str (nmS "abcdefgh")), .cst (.str (nmS "lamp")), .cst (.str (nmS "none"))]),
  .ret (.lc false [5] (.item (.var 4) (.bin .mod (.prim .int [.bin .add (.var 2) (.bin .mul (.var 3) (.var 5))]) (.cst (.int 7)))) (.var 5) (.rng [.var 1]) [])]⟩
-- end
def c__law_up : FnC := ⟨2, 3, [.ifS (.cmp .le (.var 1) (.bin .pow (.cst (.int 10)) (.cst (.int 6)))) [.ret (.bin .add (.cst (.int 1)) (.call "_law_dip" [.var 0, .var 1]))] [],
  .set (.var 2) (.call "_law_pick" [.var 0, .lst false [.cst (.int 1), .cst (.int 7), .bin .pow (.cst (.int 10)) (.cst (.int 3)), .bin .pow (.cst (.int 10)) (.cst (.int 6)), .bin .pow (.cst (.int 10)) (.cst (.int 9)), .bin .pow (.cst (.int 10)) (.cst (.int 14)), .bin .pow (.cst (.int 10)) (.cst (.int 21)), .bin .pow (.cst (.int 10)) (.cst (.int 25))]]),
  .ret (.bin .add (.cst (.int 1)) (.bin .mod (.prim .int [.bin .add (.bin .mul (.call "_law_dip" [.var 0, .bin .pow (.cst (.int 10)) (.cst (.int 6))]) (.var 2)) (.call "_law_dip" [.var 0, .cst (.int 997)])]) (.var 1)))]⟩
-- end
def c__law_well : FnC := ⟨2, 5, [.set (.var 2) (.ite (.cmp .lt (.var 1) (.prim .len [.var 0])) (.prim .int [.item (.var 0) (.var 1)]) (.bin .add (.bin .mul (.cst (.int 53)) (.var 1)) (.cst (.int 11)))),
  .set (.var 3) (.bin .add (.cst (.int 10061)) (.bin .mul (.cst (.int 617)) (.var 1))),
  .forS (.var 4) (.sl (.var 0) none (some (.cst (.int 8)))) [.set (.var 3) (.bin .mod (.prim .int [.bin .add (.bin .add (.bin .mul (.var 3) (.cst (.int 16807))) (.bin .mod (.prim .int [.var 4]) (.cst (.int 999953)))) (.var 1)]) (.cst (.int 2147483647)))],
  .set (.var 3) (.bin .mod (.prim .int [.bin .add (.bin .mul (.var 3) (.cst (.int 16807))) (.bin .mod (.prim .int [.var 2]) (.cst (.int 999953)))]) (.cst (.int 2147483647))),
  .ret (.lst true [.ite (.cmp .ge (.prim .abs [.var 2]) (.bin .pow (.cst (.int 10)) (.cst (.int 18)))) (.prim .abs [.var 2]) (.cst (.int 0)), .var 3, .cst (.int 0)])]⟩
-- end
def c__wall : FnC := ⟨1, 1, [.whileS (.cst (.bl true)) [.pass]]⟩
-- end
def c_check_known : FnC := ⟨2, 2, [.ifS (.cmp .notin (.var 0) (.var 1)) [.never] []]⟩
-- end
def c_is_name : FnC := ⟨1, 2, [.ifS (.or (.not (.isi (.var 0) [.str])) (.not (.chain .le .le (.cst (.int 1)) (.prim .len [.var 0]) (.gc "MOST_LETTERS")))) [.ret (.cst (.bl false))] [],
  .ret (.prim .all [.lc false [1] (.cmp .in_ (.var 1) (.gc "LETTERS")) (.var 1) (.var 0) []])]⟩
-- end
def c_number_in : FnC := ⟨2, 3, [.ifS (.or (.not (.chain .le .le (.cst (.int 1)) (.prim .len [.var 0]) (.gc "MOST_FIGURES"))) (.not (.prim .all [.lc false [2] (.cmp .in_ (.var 2) (.gc "FIGURES")) (.var 2) (.var 0) []]))) [.ret (.cst .non)] [],
  .ifS (.and (.cmp .eq (.item (.var 0) (.cst (.int 0))) (.cst (.str (nmS "0")))) (.cmp .ne (.var 0) (.cst (.str (nmS "0"))))) [.ret (.cst .non)] [],
  .ret (.ite (.cmp .le (.prim .int [.var 0]) (.var 1)) (.prim .int [.var 0]) (.cst .non))]⟩
-- end
def c_rows_in : FnC := ⟨4, 11, [.ifS (.not (.isi (.var 0) [.str])) [.ret (.cst .non)] [],
  .par [4, 5] [.lst true [], .dct0],
  .forS (.var 6) (.meth .split (.var 0) [.cst (.str (nmS "\n"))]) [.set (.var 7) (.meth .split (.var 6) [.cst (.str (nmS " "))]),
  .ifS (.or (.cmp .ne (.prim .len [.var 7]) (.cst (.int 4))) (.or (.cmp .ne (.item (.var 7) (.cst (.int 0))) (.var 1)) (.or (.not (.call "is_name" [.item (.var 7) (.cst (.int 1))])) (.cmp .in_ (.item (.var 7) (.cst (.int 1))) (.var 5))))) [.ret (.cst .non)] [],
  .set (.var 8) (.lc false [9, 10] (.call "number_in" [.var 9, .var 10]) (.tup [.var 9, .var 10]) (.zip [.sl (.var 7) (some (.cst (.int 2))) none, .var 3]) []),
  .ifS (.or (.cmp .in_ (.cst .non) (.var 8)) (.cmp .in_ (.cst (.int 0)) (.var 8))) [.ret (.cst .non)] [],
  .setItem (.var 5) (.item (.var 7) (.cst (.int 1))) (.cst (.bl true)),
  .expr (.meth .append (.var 4) [.tup [.item (.var 7) (.cst (.int 1)), .item (.var 8) (.cst (.int 0)), .item (.var 8) (.cst (.int 1))]])],
  .ret (.ite (.cmp .le (.prim .len [.var 4]) (.var 2)) (.prim .tuple [.var 4]) (.cst .non))]⟩
-- end
def c_text_of : FnC := ⟨2, 5, [.ret (.meth .join (.cst (.str (nmS "\n"))) [.lc false [2, 3, 4] (.fstr [.fmt (.var 1), .cst (.str (nmS " ")), .fmt (.var 2), .cst (.str (nmS " ")), .fmt (.var 3), .cst (.str (nmS " ")), .fmt (.var 4)]) (.tup [.var 2, .var 3, .var 4]) (.var 0) []])]⟩
-- end
def k_Stock : ClC := ⟨[("__init__", "Stock.__init__"), ("put", "Stock.put"), ("without", "Stock.without"), ("__eq__", "Stock.__eq__"), ("__str__", "Stock.__str__"), ("__repr__", "Stock.__repr__")], [("text", "Stock.text"), ("kinds", "Stock.kinds"), ("charges", "Stock.charges"), ("counts", "Stock.counts")], ["lines", "wording"], ["eq", "ne", "tru"]⟩
def k_Programme : ClC := ⟨[("__init__", "Programme.__init__"), ("put", "Programme.put"), ("without", "Programme.without"), ("__eq__", "Programme.__eq__"), ("__str__", "Programme.__str__"), ("__repr__", "Programme.__repr__")], [("text", "Programme.text"), ("uses", "Programme.uses"), ("cells", "Programme.cells"), ("minutes", "Programme.minutes")], ["lines", "wording"], ["eq", "ne", "tru"]⟩
end MP.C
end

section
set_option linter.all false
set_option maxRecDepth 100000
set_option maxHeartbeats 4000000
namespace Law_k05
open PySem L2 MP PyProof.Rows
def top (i : Nat) : Stmt := PySem.Challenge.pw_cellturns_k05_programmes_made.main.body.getD i (.Pass ⟨0, 0, 0, 0⟩)
abbrev s__wall : Stmt := top 0
abbrev s_is_name : Stmt := top 16
abbrev s_number_in : Stmt := top 17
abbrev s_rows_in : Stmt := top 18
abbrev s_text_of : Stmt := top 19
abbrev s_check_known : Stmt := top 20
abbrev s_ProgrammeD_initD : Stmt := inClass (top 22) 0
abbrev s_Programme_text : Stmt := inClass (top 22) 1
abbrev s_Programme_uses : Stmt := inClass (top 22) 2
abbrev s_Programme_cells : Stmt := inClass (top 22) 3
abbrev s_Programme_minutes : Stmt := inClass (top 22) 4
abbrev s_Programme_put : Stmt := inClass (top 22) 5
abbrev s_Programme_without : Stmt := inClass (top 22) 6
abbrev s_ProgrammeD_eqD : Stmt := inClass (top 22) 7
abbrev s_ProgrammeD_strD : Stmt := inClass (top 22) 8
abbrev s_ProgrammeD_reprD : Stmt := inClass (top 22) 9
abbrev s__law_well : Stmt := top 24
abbrev s__law_dip : Stmt := top 25
abbrev s__law_pick : Stmt := top 26
abbrev s__law_terms : Stmt := top 27
abbrev s__law_up : Stmt := top 28
abbrev s__law_stock : Stmt := top 29
abbrev s__law_sheet : Stmt := top 30
abbrev s__law_right : Stmt := top 31
abbrev s_law : Stmt := top 32
open MP.C
def c__law_right : FnC := ⟨1, 12, [.forS (.var 1) (.rng [.cst (.int 4)]) [.set (.var 2) (.call "_law_stock" [.var 0, .cst (.int 6), .call "_law_pick" [.var 0, .lst false [.cst (.int 9), .bin .pow (.cst (.int 10)) (.cst (.int 12))]], .call "_law_pick" [.var 0, .lst false [.cst (.int 9), .bin .pow (.cst (.int 10)) (.cst (.int 12))]]]),
  .set (.var 3) (.call "_law_sheet" [.var 2, .cst (.str (nmS "use"))]),
  .par [4, 5] [.new "Programme" false [.var 3], .newK "Programme" false [] ["text"] [0] [.var 3]],
  .set (.var 6) (.lst false [.attr (.var 4) "text", .attr (.var 4) "uses", .attr (.var 4) "cells", .attr (.var 4) "minutes", .ostr (.var 4), .orepr (.var 4)]),
  .set (.var 7) (.lst false [.var 3, .prim .tuple [.lc false [11] (.item (.var 11) (.cst (.int 0))) (.var 11) (.var 2) []], .prim .tuple [.lc false [11] (.item (.var 11) (.cst (.int 1))) (.var 11) (.var 2) []], .prim .tuple [.lc false [11] (.item (.var 11) (.cst (.int 2))) (.var 11) (.var 2) []], .var 3]),
  .ifS (.cmp .ne (.prim .repr [.var 6]) (.prim .repr [.bin .add (.var 7) (.lst false [.bin .add (.bin .add (.cst (.str (nmS "Programme of "))) (.prim .str [.prim .len [.var 2]])) (.cst (.str (nmS " uses")))])])) [.ret (.cst (.bl false))] [],
  .ifS (.or (.not (.oeq false (.var 4) (.var 5))) (.or (.oeq true (.var 4) (.var 5)) (.not (.obool (.var 4))))) [.ret (.cst (.bl false))] [],
  .set (.var 8) (.bin .add (.lst false [.lst false [.item (.item (.var 2) (.cst (.int 0))) (.cst (.int 0)), .ite (.cmp .lt (.item (.item (.var 2) (.cst (.int 0))) (.cst (.int 1))) (.bin .pow (.cst (.int 10)) (.cst (.int 12)))) (.bin .add (.item (.item (.var 2) (.cst (.int 0))) (.cst (.int 1))) (.cst (.int 1))) (.cst (.int 1)), .item (.item (.var 2) (.cst (.int 0))) (.cst (.int 2))]]) (.sl (.var 2) (some (.cst (.int 1))) none)),
  .set (.var 9) (.lst true [.new "Programme" false [.call "_law_sheet" [.var 8, .cst (.str (nmS "use"))]]]),
  .ifS (.cmp .lt (.prim .len [.var 2]) (.cst (.int 6))) [.expr (.meth .append (.var 9) [.new "Programme" false [.call "_law_sheet" [.bin .add (.var 2) (.lst false [.lst false [.cst (.str (nmS "zoe")), .cst (.int 1), .cst (.int 1)]]), .cst (.str (nmS "use"))]]])] [],
  .ifS (.cmp .gt (.prim .len [.var 2]) (.cst (.int 1))) [.expr (.meth .append (.var 9) [.new "Programme" false [.call "_law_sheet" [.bin .add (.sl (.var 2) (some (.cst (.int 1))) none) (.sl (.var 2) none (some (.cst (.int 1)))), .cst (.str (nmS "use"))]]])] [],
  .forS (.var 10) (.var 9) [.ifS (.or (.oeq false (.var 4) (.var 10)) (.not (.oeq true (.var 10) (.var 4)))) [.ret (.cst (.bl false))] []],
  .ifS (.cmp .ne (.lst false [.oeq false (.var 4) (.var 3), .oeq false (.var 4) (.cst .non), .oeq true (.var 4) (.attr (.var 4) "text"), .oeq false (.var 4) (.tup [.var 3])]) (.lst false [.cst (.bl false), .cst (.bl false), .cst (.bl true), .cst (.bl false)])) [.ret (.cst (.bl false))] []],
  .ret (.cst (.bl true))]⟩
def c_law : FnC := ⟨1, 2, [.ret (.prim .all [.lc false [1] (.call "_law_right" [.call "_law_well" [.var 0, .var 1]]) (.var 1) (.rng [.prim .max [.cst (.int 2), .prim .min [.prim .len [.var 0], .cst (.int 4)]]]) []])]⟩
def globL : List String := ["_wall", "is_name", "number_in", "rows_in", "text_of", "check_known", "_law_well", "_law_dip", "_law_pick", "_law_terms", "_law_up", "_law_stock", "_law_sheet", "_law_right", "law"]
def fnL : List (String × FnC) := [("_wall", c__wall), ("is_name", c_is_name), ("number_in", c_number_in), ("rows_in", c_rows_in), ("text_of", c_text_of), ("check_known", c_check_known), ("Programme.__init__", c_ProgrammeD_initD), ("Programme.text", c_Programme_text), ("Programme.uses", c_Programme_uses), ("Programme.cells", c_Programme_cells), ("Programme.minutes", c_Programme_minutes), ("Programme.put", c_Programme_put), ("Programme.without", c_Programme_without), ("Programme.__eq__", c_ProgrammeD_eqD), ("Programme.__str__", c_ProgrammeD_strD), ("Programme.__repr__", c_ProgrammeD_reprD), ("_law_well", c__law_well), ("_law_dip", c__law_dip), ("_law_pick", c__law_pick), ("_law_terms", c__law_terms), ("_law_up", c__law_up), ("_law_stock", c__law_stock), ("_law_sheet", c__law_sheet), ("_law_right", c__law_right), ("law", c_law)]
def kwL : List (String × List Pat) := [("Programme.__init__", [(1, ["text"], [0])])]
-- Programme
def clsL : List (String × ClC) := [("Programme", k_Programme)]
def glL : List (String × D) := [("MOST_USES", .int (6)), ("MOST_MINUTES", .int (1000000000000)), ("MOST_CELLS", .int (1000000000000000000000000000000)), ("LETTERS", .str (nmS "abcdefghijklmnopqrstuvwxyz")), ("FIGURES", .str (nmS "0123456789")), ("MOST_LETTERS", .int (8)), ("MOST_FIGURES", .int (60))]
def P : Prog := ⟨fun f => fnL.lookup f, globL, fun c => clsL.lookup c, fun x => glL.lookup x, fun f => (kwL.lookup f).getD [], 1000⟩
instance : Has P "_wall" c__wall := ⟨rfl⟩
instance : HasF P "_wall" := ⟨rfl⟩
instance : Has P "is_name" c_is_name := ⟨rfl⟩
instance : HasF P "is_name" := ⟨rfl⟩
instance : Has P "number_in" c_number_in := ⟨rfl⟩
instance : HasF P "number_in" := ⟨rfl⟩
instance : Has P "rows_in" c_rows_in := ⟨rfl⟩
instance : HasF P "rows_in" := ⟨rfl⟩
instance : Has P "text_of" c_text_of := ⟨rfl⟩
instance : HasF P "text_of" := ⟨rfl⟩
instance : Has P "check_known" c_check_known := ⟨rfl⟩
instance : HasF P "check_known" := ⟨rfl⟩
instance : Has P "Programme.__init__" c_ProgrammeD_initD := ⟨rfl⟩
instance : Has P "Programme.text" c_Programme_text := ⟨rfl⟩
instance : Has P "Programme.uses" c_Programme_uses := ⟨rfl⟩
instance : Has P "Programme.cells" c_Programme_cells := ⟨rfl⟩
instance : Has P "Programme.minutes" c_Programme_minutes := ⟨rfl⟩
instance : Has P "Programme.put" c_Programme_put := ⟨rfl⟩
instance : Has P "Programme.without" c_Programme_without := ⟨rfl⟩
instance : Has P "Programme.__eq__" c_ProgrammeD_eqD := ⟨rfl⟩
instance : Has P "Programme.__str__" c_ProgrammeD_strD := ⟨rfl⟩
instance : Has P "Programme.__repr__" c_ProgrammeD_reprD := ⟨rfl⟩
instance : Has P "_law_well" c__law_well := ⟨rfl⟩
instance : HasF P "_law_well" := ⟨rfl⟩
instance : Has P "_law_dip" c__law_dip := ⟨rfl⟩
instance : HasF P "_law_dip" := ⟨rfl⟩
instance : Has P "_law_pick" c__law_pick := ⟨rfl⟩
instance : HasF P "_law_pick" := ⟨rfl⟩
instance : Has P "_law_terms" c__law_terms := ⟨rfl⟩
instance : HasF P "_law_terms" := ⟨rfl⟩
instance : Has P "_law_up" c__law_up := ⟨rfl⟩
instance : HasF P "_law_up" := ⟨rfl⟩
instance : Has P "_law_stock" c__law_stock := ⟨rfl⟩
instance : HasF P "_law_stock" := ⟨rfl⟩
instance : Has P "_law_sheet" c__law_sheet := ⟨rfl⟩
instance : HasF P "_law_sheet" := ⟨rfl⟩
instance : HasC P "Programme" k_Programme := ⟨rfl⟩
instance : HasG P "MOST_USES" (.int (6)) := ⟨rfl⟩
instance : HasG P "MOST_MINUTES" (.int (1000000000000)) := ⟨rfl⟩
instance : HasG P "MOST_CELLS" (.int (1000000000000000000000000000000)) := ⟨rfl⟩
instance : HasG P "LETTERS" (.str (nmS "abcdefghijklmnopqrstuvwxyz")) := ⟨rfl⟩
instance : HasG P "FIGURES" (.str (nmS "0123456789")) := ⟨rfl⟩
instance : HasG P "MOST_LETTERS" (.int (8)) := ⟨rfl⟩
instance : HasG P "MOST_FIGURES" (.int (60)) := ⟨rfl⟩
abbrev N__wall : List Str := [nmS "k"]
abbrev p__wall : List Str := [nmS "k"]
theorem sc__wall : FnScope N__wall p__wall (defScope s__wall) := ⟨rfl, rfl, rfl, by decide +kernel, rfl, by decide +kernel, by decide +kernel⟩
theorem ck__wall : chkSs ⟨defScope s__wall, N__wall, fun _ => true⟩ c__wall.body (defBody s__wall) = true := by decide +kernel
theorem ft__wall {K : PySem.W.Frag} {f : Addr} {fd : FuncData} (F : L2.Fun K "_wall" "_wall" s__wall f fd) : FOk P K "_wall" f := by
  have b : Binds K fd p__wall [] := F.binds (ps := p__wall) fun _ _ _ _ _ _ us hl => match us, hl with | [_], _ => rfl
  exact ⟨fd, p__wall, b, fun _ z => (nomatch z), _, _, _, _, _, F, sc__wall, rfl, rfl, rfl, ck__wall⟩
abbrev N_is_name : List Str := [nmS "value", nmS "sign"]
abbrev p_is_name : List Str := [nmS "value"]
theorem sc_is_name : FnScope N_is_name p_is_name (defScope s_is_name) := ⟨rfl, rfl, rfl, by decide +kernel, rfl, by decide +kernel, by decide +kernel⟩
theorem ck_is_name : chkSs ⟨defScope s_is_name, N_is_name, fun _ => true⟩ c_is_name.body (defBody s_is_name) = true := by decide +kernel
theorem ft_is_name {K : PySem.W.Frag} {f : Addr} {fd : FuncData} (F : L2.Fun K "is_name" "is_name" s_is_name f fd) : FOk P K "is_name" f := by
  have b : Binds K fd p_is_name [] := F.binds (ps := p_is_name) fun _ _ _ _ _ _ us hl => match us, hl with | [_], _ => rfl
  exact ⟨fd, p_is_name, b, fun _ z => (nomatch z), _, _, _, _, _, F, sc_is_name, rfl, rfl, rfl, ck_is_name⟩
abbrev N_number_in : List Str := [nmS "word", nmS "most", nmS "sign"]
abbrev p_number_in : List Str := [nmS "word", nmS "most"]
theorem sc_number_in : FnScope N_number_in p_number_in (defScope s_number_in) := ⟨rfl, rfl, rfl, by decide +kernel, rfl, by decide +kernel, by decide +kernel⟩
theorem ck_number_in : chkSs ⟨defScope s_number_in, N_number_in, fun _ => true⟩ c_number_in.body (defBody s_number_in) = true := by decide +kernel
theorem ft_number_in {K : PySem.W.Frag} {f : Addr} {fd : FuncData} (F : L2.Fun K "number_in" "number_in" s_number_in f fd) : FOk P K "number_in" f := by
  have b : Binds K fd p_number_in [] := F.binds (ps := p_number_in) fun _ _ _ _ _ _ us hl => match us, hl with | [_, _], _ => rfl
  exact ⟨fd, p_number_in, b, fun _ z => (nomatch z), _, _, _, _, _, F, sc_number_in, rfl, rfl, rfl, ck_number_in⟩
abbrev N_rows_in : List Str := [nmS "text", nmS "word", nmS "most", nmS "bounds", nmS "found", nmS "known", nmS "line", nmS "words", nmS "numbers", nmS "each", nmS "bound"]
abbrev p_rows_in : List Str := [nmS "text", nmS "word", nmS "most", nmS "bounds"]
theorem sc_rows_in : FnScope N_rows_in p_rows_in (defScope s_rows_in) := ⟨rfl, rfl, rfl, by decide +kernel, rfl, by decide +kernel, by decide +kernel⟩
theorem ck_rows_in : chkSs ⟨defScope s_rows_in, N_rows_in, fun _ => true⟩ c_rows_in.body (defBody s_rows_in) = true := by decide +kernel
theorem ft_rows_in {K : PySem.W.Frag} {f : Addr} {fd : FuncData} (F : L2.Fun K "rows_in" "rows_in" s_rows_in f fd) : FOk P K "rows_in" f := by
  have b : Binds K fd p_rows_in [] := F.binds (ps := p_rows_in) fun _ _ _ _ _ _ us hl => match us, hl with | [_, _, _, _], _ => rfl
  exact ⟨fd, p_rows_in, b, fun _ z => (nomatch z), _, _, _, _, _, F, sc_rows_in, rfl, rfl, rfl, ck_rows_in⟩
abbrev N_text_of : List Str := [nmS "rows", nmS "word", nmS "name", nmS "first", nmS "second"]
abbrev p_text_of : List Str := [nmS "rows", nmS "word"]
theorem sc_text_of : FnScope N_text_of p_text_of (defScope s_text_of) := ⟨rfl, rfl, rfl, by decide +kernel, rfl, by decide +kernel, by decide +kernel⟩
theorem ck_text_of : chkSs ⟨defScope s_text_of, N_text_of, fun _ => true⟩ c_text_of.body (defBody s_text_of) = true := by decide +kernel
theorem ft_text_of {K : PySem.W.Frag} {f : Addr} {fd : FuncData} (F : L2.Fun K "text_of" "text_of" s_text_of f fd) : FOk P K "text_of" f := by
  have b : Binds K fd p_text_of [] := F.binds (ps := p_text_of) fun _ _ _ _ _ _ us hl => match us, hl with | [_, _], _ => rfl
  exact ⟨fd, p_text_of, b, fun _ z => (nomatch z), _, _, _, _, _, F, sc_text_of, rfl, rfl, rfl, ck_text_of⟩
abbrev N_check_known : List Str := [nmS "value", nmS "names"]
abbrev p_check_known : List Str := [nmS "value", nmS "names"]
theorem sc_check_known : FnScope N_check_known p_check_known (defScope s_check_known) := ⟨rfl, rfl, rfl, by decide +kernel, rfl, by decide +kernel, by decide +kernel⟩
theorem ck_check_known : chkSs ⟨defScope s_check_known, N_check_known, fun _ => true⟩ c_check_known.body (defBody s_check_known) = true := by decide +kernel
theorem ft_check_known {K : PySem.W.Frag} {f : Addr} {fd : FuncData} (F : L2.Fun K "check_known" "check_known" s_check_known f fd) : FOk P K "check_known" f := by
  have b : Binds K fd p_check_known [] := F.binds (ps := p_check_known) fun _ _ _ _ _ _ us hl => match us, hl with | [_, _], _ => rfl
  exact ⟨fd, p_check_known, b, fun _ z => (nomatch z), _, _, _, _, _, F, sc_check_known, rfl, rfl, rfl, ck_check_known⟩
abbrev N_ProgrammeD_initD : List Str := [nmS "self", nmS "text", nmS "rows"]
abbrev p_ProgrammeD_initD : List Str := [nmS "self", nmS "text"]
theorem sc_ProgrammeD_initD : FnScope N_ProgrammeD_initD p_ProgrammeD_initD (defScope s_ProgrammeD_initD) := ⟨rfl, rfl, rfl, by decide +kernel, rfl, by decide +kernel, by decide +kernel⟩
theorem ck_ProgrammeD_initD : chkSs ⟨defScope s_ProgrammeD_initD, N_ProgrammeD_initD, fun _ => true⟩ c_ProgrammeD_initD.body (defBody s_ProgrammeD_initD) = true := by decide +kernel
theorem ft_ProgrammeD_initD {K : PySem.W.Frag} {f : Addr} {fd : FuncData} (F : L2.Fun K "__init__" "Programme.__init__" s_ProgrammeD_initD f fd) : FOk P K "Programme.__init__" f := by
  have b : Binds K fd p_ProgrammeD_initD [] := F.binds (ps := p_ProgrammeD_initD) fun _ _ _ _ _ _ us hl => match us, hl with | [_, _], _ => rfl
  refine ⟨fd, p_ProgrammeD_initD, b, ?_, _, _, _, _, _, F, sc_ProgrammeD_initD, rfl, rfl, rfl, ck_ProgrammeD_initD⟩
  obtain ⟨oc, od, kV, doc, pm, an, cdv, ct, osl, rfl, look, code⟩ := F.ex
  exact (allc (fun s us ws h1 h2 => match us, ws, h1, h2 with | [_], [_], _, _ => .of_eq rfl) alln)
abbrev N_Programme_text : List Str := [nmS "self"]
abbrev p_Programme_text : List Str := [nmS "self"]
theorem sc_Programme_text : FnScope N_Programme_text p_Programme_text (defScope s_Programme_text) := ⟨rfl, rfl, rfl, by decide +kernel, rfl, by decide +kernel, by decide +kernel⟩
theorem ck_Programme_text : chkSs ⟨defScope s_Programme_text, N_Programme_text, fun _ => true⟩ c_Programme_text.body (defBody s_Programme_text) = true := by decide +kernel
theorem ft_Programme_text {K : PySem.W.Frag} {f : Addr} {fd : FuncData} (F : L2.Fun K "text" "Programme.text" s_Programme_text f fd) : FOk P K "Programme.text" f := by
  have b : Binds K fd p_Programme_text [] := F.binds (ps := p_Programme_text) fun _ _ _ _ _ _ us hl => match us, hl with | [_], _ => rfl
  exact ⟨fd, p_Programme_text, b, fun _ z => (nomatch z), _, _, _, _, _, F, sc_Programme_text, rfl, rfl, rfl, ck_Programme_text⟩
abbrev N_Programme_uses : List Str := [nmS "self", nmS "row"]
abbrev p_Programme_uses : List Str := [nmS "self"]
theorem sc_Programme_uses : FnScope N_Programme_uses p_Programme_uses (defScope s_Programme_uses) := ⟨rfl, rfl, rfl, by decide +kernel, rfl, by decide +kernel, by decide +kernel⟩
theorem ck_Programme_uses : chkSs ⟨defScope s_Programme_uses, N_Programme_uses, fun _ => true⟩ c_Programme_uses.body (defBody s_Programme_uses) = true := by decide +kernel
theorem ft_Programme_uses {K : PySem.W.Frag} {f : Addr} {fd : FuncData} (F : L2.Fun K "uses" "Programme.uses" s_Programme_uses f fd) : FOk P K "Programme.uses" f := by
  have b : Binds K fd p_Programme_uses [] := F.binds (ps := p_Programme_uses) fun _ _ _ _ _ _ us hl => match us, hl with | [_], _ => rfl
  exact ⟨fd, p_Programme_uses, b, fun _ z => (nomatch z), _, _, _, _, _, F, sc_Programme_uses, rfl, rfl, rfl, ck_Programme_uses⟩
abbrev N_Programme_cells : List Str := [nmS "self", nmS "row"]
abbrev p_Programme_cells : List Str := [nmS "self"]
theorem sc_Programme_cells : FnScope N_Programme_cells p_Programme_cells (defScope s_Programme_cells) := ⟨rfl, rfl, rfl, by decide +kernel, rfl, by decide +kernel, by decide +kernel⟩
theorem ck_Programme_cells : chkSs ⟨defScope s_Programme_cells, N_Programme_cells, fun _ => true⟩ c_Programme_cells.body (defBody s_Programme_cells) = true := by decide +kernel
theorem ft_Programme_cells {K : PySem.W.Frag} {f : Addr} {fd : FuncData} (F : L2.Fun K "cells" "Programme.cells" s_Programme_cells f fd) : FOk P K "Programme.cells" f := by
  have b : Binds K fd p_Programme_cells [] := F.binds (ps := p_Programme_cells) fun _ _ _ _ _ _ us hl => match us, hl with | [_], _ => rfl
  exact ⟨fd, p_Programme_cells, b, fun _ z => (nomatch z), _, _, _, _, _, F, sc_Programme_cells, rfl, rfl, rfl, ck_Programme_cells⟩
abbrev N_Programme_minutes : List Str := [nmS "self", nmS "row"]
abbrev p_Programme_minutes : List Str := [nmS "self"]
theorem sc_Programme_minutes : FnScope N_Programme_minutes p_Programme_minutes (defScope s_Programme_minutes) := ⟨rfl, rfl, rfl, by decide +kernel, rfl, by decide +kernel, by decide +kernel⟩
theorem ck_Programme_minutes : chkSs ⟨defScope s_Programme_minutes, N_Programme_minutes, fun _ => true⟩ c_Programme_minutes.body (defBody s_Programme_minutes) = true := by decide +kernel
theorem ft_Programme_minutes {K : PySem.W.Frag} {f : Addr} {fd : FuncData} (F : L2.Fun K "minutes" "Programme.minutes" s_Programme_minutes f fd) : FOk P K "Programme.minutes" f := by
  have b : Binds K fd p_Programme_minutes [] := F.binds (ps := p_Programme_minutes) fun _ _ _ _ _ _ us hl => match us, hl with | [_], _ => rfl
  exact ⟨fd, p_Programme_minutes, b, fun _ z => (nomatch z), _, _, _, _, _, F, sc_Programme_minutes, rfl, rfl, rfl, ck_Programme_minutes⟩
abbrev N_Programme_put : List Str := [nmS "self", nmS "use", nmS "cells", nmS "minutes"]
abbrev p_Programme_put : List Str := [nmS "self", nmS "use", nmS "cells", nmS "minutes"]
theorem sc_Programme_put : FnScope N_Programme_put p_Programme_put (defScope s_Programme_put) := ⟨rfl, rfl, rfl, by decide +kernel, rfl, by decide +kernel, by decide +kernel⟩
theorem ck_Programme_put : chkSs ⟨defScope s_Programme_put, N_Programme_put, fun _ => true⟩ c_Programme_put.body (defBody s_Programme_put) = true := by decide +kernel
theorem ft_Programme_put {K : PySem.W.Frag} {f : Addr} {fd : FuncData} (F : L2.Fun K "put" "Programme.put" s_Programme_put f fd) : FOk P K "Programme.put" f := by
  have b : Binds K fd p_Programme_put [] := F.binds (ps := p_Programme_put) fun _ _ _ _ _ _ us hl => match us, hl with | [_, _, _, _], _ => rfl
  exact ⟨fd, p_Programme_put, b, fun _ z => (nomatch z), _, _, _, _, _, F, sc_Programme_put, rfl, rfl, rfl, ck_Programme_put⟩
abbrev N_Programme_without : List Str := [nmS "self", nmS "use", nmS "row"]
abbrev p_Programme_without : List Str := [nmS "self", nmS "use"]
theorem sc_Programme_without : FnScope N_Programme_without p_Programme_without (defScope s_Programme_without) := ⟨rfl, rfl, rfl, by decide +kernel, rfl, by decide +kernel, by decide +kernel⟩
theorem ck_Programme_without : chkSs ⟨defScope s_Programme_without, N_Programme_without, fun _ => true⟩ c_Programme_without.body (defBody s_Programme_without) = true := by decide +kernel
theorem ft_Programme_without {K : PySem.W.Frag} {f : Addr} {fd : FuncData} (F : L2.Fun K "without" "Programme.without" s_Programme_without f fd) : FOk P K "Programme.without" f := by
  have b : Binds K fd p_Programme_without [] := F.binds (ps := p_Programme_without) fun _ _ _ _ _ _ us hl => match us, hl with | [_, _], _ => rfl
  exact ⟨fd, p_Programme_without, b, fun _ z => (nomatch z), _, _, _, _, _, F, sc_Programme_without, rfl, rfl, rfl, ck_Programme_without⟩
abbrev N_ProgrammeD_eqD : List Str := [nmS "self", nmS "other"]
abbrev p_ProgrammeD_eqD : List Str := [nmS "self", nmS "other"]
theorem sc_ProgrammeD_eqD : FnScope N_ProgrammeD_eqD p_ProgrammeD_eqD (defScope s_ProgrammeD_eqD) := ⟨rfl, rfl, rfl, by decide +kernel, rfl, by decide +kernel, by decide +kernel⟩
theorem ck_ProgrammeD_eqD : chkSs ⟨defScope s_ProgrammeD_eqD, N_ProgrammeD_eqD, fun _ => true⟩ c_ProgrammeD_eqD.body (defBody s_ProgrammeD_eqD) = true := by decide +kernel
theorem ft_ProgrammeD_eqD {K : PySem.W.Frag} {f : Addr} {fd : FuncData} (F : L2.Fun K "__eq__" "Programme.__eq__" s_ProgrammeD_eqD f fd) : FOk P K "Programme.__eq__" f := by
  have b : Binds K fd p_ProgrammeD_eqD [] := F.binds (ps := p_ProgrammeD_eqD) fun _ _ _ _ _ _ us hl => match us, hl with | [_, _], _ => rfl
  exact ⟨fd, p_ProgrammeD_eqD, b, fun _ z => (nomatch z), _, _, _, _, _, F, sc_ProgrammeD_eqD, rfl, rfl, rfl, ck_ProgrammeD_eqD⟩
abbrev N_ProgrammeD_strD : List Str := [nmS "self"]
abbrev p_ProgrammeD_strD : List Str := [nmS "self"]
theorem sc_ProgrammeD_strD : FnScope N_ProgrammeD_strD p_ProgrammeD_strD (defScope s_ProgrammeD_strD) := ⟨rfl, rfl, rfl, by decide +kernel, rfl, by decide +kernel, by decide +kernel⟩
theorem ck_ProgrammeD_strD : chkSs ⟨defScope s_ProgrammeD_strD, N_ProgrammeD_strD, fun _ => true⟩ c_ProgrammeD_strD.body (defBody s_ProgrammeD_strD) = true := by decide +kernel
theorem ft_ProgrammeD_strD {K : PySem.W.Frag} {f : Addr} {fd : FuncData} (F : L2.Fun K "__str__" "Programme.__str__" s_ProgrammeD_strD f fd) : FOk P K "Programme.__str__" f := by
  have b : Binds K fd p_ProgrammeD_strD [] := F.binds (ps := p_ProgrammeD_strD) fun _ _ _ _ _ _ us hl => match us, hl with | [_], _ => rfl
  exact ⟨fd, p_ProgrammeD_strD, b, fun _ z => (nomatch z), _, _, _, _, _, F, sc_ProgrammeD_strD, rfl, rfl, rfl, ck_ProgrammeD_strD⟩
abbrev N_ProgrammeD_reprD : List Str := [nmS "self"]
abbrev p_ProgrammeD_reprD : List Str := [nmS "self"]
theorem sc_ProgrammeD_reprD : FnScope N_ProgrammeD_reprD p_ProgrammeD_reprD (defScope s_ProgrammeD_reprD) := ⟨rfl, rfl, rfl, by decide +kernel, rfl, by decide +kernel, by decide +kernel⟩
theorem ck_ProgrammeD_reprD : chkSs ⟨defScope s_ProgrammeD_reprD, N_ProgrammeD_reprD, fun _ => true⟩ c_ProgrammeD_reprD.body (defBody s_ProgrammeD_reprD) = true := by decide +kernel
theorem ft_ProgrammeD_reprD {K : PySem.W.Frag} {f : Addr} {fd : FuncData} (F : L2.Fun K "__repr__" "Programme.__repr__" s_ProgrammeD_reprD f fd) : FOk P K "Programme.__repr__" f := by
  have b : Binds K fd p_ProgrammeD_reprD [] := F.binds (ps := p_ProgrammeD_reprD) fun _ _ _ _ _ _ us hl => match us, hl with | [_], _ => rfl
  exact ⟨fd, p_ProgrammeD_reprD, b, fun _ z => (nomatch z), _, _, _, _, _, F, sc_ProgrammeD_reprD, rfl, rfl, rfl, ck_ProgrammeD_reprD⟩
abbrev N__law_well : List Str := [nmS "_law_script", nmS "_law_turn", nmS "_law_entry", nmS "_law_stirred", nmS "_law_each"]
abbrev p__law_well : List Str := [nmS "_law_script", nmS "_law_turn"]
theorem sc__law_well : FnScope N__law_well p__law_well (defScope s__law_well) := ⟨rfl, rfl, rfl, by decide +kernel, rfl, by decide +kernel, by decide +kernel⟩
theorem ck__law_well : chkSs ⟨defScope s__law_well, N__law_well, fun _ => true⟩ c__law_well.body (defBody s__law_well) = true := by decide +kernel
theorem ft__law_well {K : PySem.W.Frag} {f : Addr} {fd : FuncData} (F : L2.Fun K "_law_well" "_law_well" s__law_well f fd) : FOk P K "_law_well" f := by
  have b : Binds K fd p__law_well [] := F.binds (ps := p__law_well) fun _ _ _ _ _ _ us hl => match us, hl with | [_, _], _ => rfl
  exact ⟨fd, p__law_well, b, fun _ z => (nomatch z), _, _, _, _, _, F, sc__law_well, rfl, rfl, rfl, ck__law_well⟩
abbrev N__law_dip : List Str := [nmS "_law_well_here", nmS "_law_size", nmS "_law_digit"]
abbrev p__law_dip : List Str := [nmS "_law_well_here", nmS "_law_size"]
theorem sc__law_dip : FnScope N__law_dip p__law_dip (defScope s__law_dip) := ⟨rfl, rfl, rfl, by decide +kernel, rfl, by decide +kernel, by decide +kernel⟩
theorem ck__law_dip : chkSs ⟨defScope s__law_dip, N__law_dip, fun _ => true⟩ c__law_dip.body (defBody s__law_dip) = true := by decide +kernel
theorem ft__law_dip {K : PySem.W.Frag} {f : Addr} {fd : FuncData} (F : L2.Fun K "_law_dip" "_law_dip" s__law_dip f fd) : FOk P K "_law_dip" f := by
  have b : Binds K fd p__law_dip [] := F.binds (ps := p__law_dip) fun _ _ _ _ _ _ us hl => match us, hl with | [_, _], _ => rfl
  exact ⟨fd, p__law_dip, b, fun _ z => (nomatch z), _, _, _, _, _, F, sc__law_dip, rfl, rfl, rfl, ck__law_dip⟩
abbrev N__law_pick : List Str := [nmS "_law_well_here", nmS "_law_menu"]
abbrev p__law_pick : List Str := [nmS "_law_well_here", nmS "_law_menu"]
theorem sc__law_pick : FnScope N__law_pick p__law_pick (defScope s__law_pick) := ⟨rfl, rfl, rfl, by decide +kernel, rfl, by decide +kernel, by decide +kernel⟩
theorem ck__law_pick : chkSs ⟨defScope s__law_pick, N__law_pick, fun _ => true⟩ c__law_pick.body (defBody s__law_pick) = true := by decide +kernel
theorem ft__law_pick {K : PySem.W.Frag} {f : Addr} {fd : FuncData} (F : L2.Fun K "_law_pick" "_law_pick" s__law_pick f fd) : FOk P K "_law_pick" f := by
  have b : Binds K fd p__law_pick [] := F.binds (ps := p__law_pick) fun _ _ _ _ _ _ us hl => match us, hl with | [_, _], _ => rfl
  exact ⟨fd, p__law_pick, b, fun _ z => (nomatch z), _, _, _, _, _, F, sc__law_pick, rfl, rfl, rfl, ck__law_pick⟩
abbrev N__law_terms : List Str := [nmS "_law_well_here", nmS "_law_size", nmS "_law_begin", nmS "_law_far", nmS "_law_menu", nmS "_law_k"]
abbrev p__law_terms : List Str := [nmS "_law_well_here", nmS "_law_size"]
theorem sc__law_terms : FnScope N__law_terms p__law_terms (defScope s__law_terms) := ⟨rfl, rfl, rfl, by decide +kernel, rfl, by decide +kernel, by decide +kernel⟩
theorem ck__law_terms : chkSs ⟨defScope s__law_terms, N__law_terms, fun _ => true⟩ c__law_terms.body (defBody s__law_terms) = true := by decide +kernel
theorem ft__law_terms {K : PySem.W.Frag} {f : Addr} {fd : FuncData} (F : L2.Fun K "_law_terms" "_law_terms" s__law_terms f fd) : FOk P K "_law_terms" f := by
  have b : Binds K fd p__law_terms [] := F.binds (ps := p__law_terms) fun _ _ _ _ _ _ us hl => match us, hl with | [_, _], _ => rfl
  exact ⟨fd, p__law_terms, b, fun _ z => (nomatch z), _, _, _, _, _, F, sc__law_terms, rfl, rfl, rfl, ck__law_terms⟩
abbrev N__law_up : List Str := [nmS "_law_well_here", nmS "_law_most", nmS "_law_scale"]
abbrev p__law_up : List Str := [nmS "_law_well_here", nmS "_law_most"]
theorem sc__law_up : FnScope N__law_up p__law_up (defScope s__law_up) := ⟨rfl, rfl, rfl, by decide +kernel, rfl, by decide +kernel, by decide +kernel⟩
theorem ck__law_up : chkSs ⟨defScope s__law_up, N__law_up, fun _ => true⟩ c__law_up.body (defBody s__law_up) = true := by decide +kernel
theorem ft__law_up {K : PySem.W.Frag} {f : Addr} {fd : FuncData} (F : L2.Fun K "_law_up" "_law_up" s__law_up f fd) : FOk P K "_law_up" f := by
  have b : Binds K fd p__law_up [] := F.binds (ps := p__law_up) fun _ _ _ _ _ _ us hl => match us, hl with | [_, _], _ => rfl
  exact ⟨fd, p__law_up, b, fun _ z => (nomatch z), _, _, _, _, _, F, sc__law_up, rfl, rfl, rfl, ck__law_up⟩
abbrev N__law_stock : List Str := [nmS "_law_well_here", nmS "_law_most_kinds", nmS "_law_most_charge", nmS "_law_most_count", nmS "_law_terms_here", nmS "_law_term"]
abbrev p__law_stock : List Str := [nmS "_law_well_here", nmS "_law_most_kinds", nmS "_law_most_charge", nmS "_law_most_count"]
theorem sc__law_stock : FnScope N__law_stock p__law_stock (defScope s__law_stock) := ⟨rfl, rfl, rfl, by decide +kernel, rfl, by decide +kernel, by decide +kernel⟩
theorem ck__law_stock : chkSs ⟨defScope s__law_stock, N__law_stock, fun _ => true⟩ c__law_stock.body (defBody s__law_stock) = true := by decide +kernel
theorem ft__law_stock {K : PySem.W.Frag} {f : Addr} {fd : FuncData} (F : L2.Fun K "_law_stock" "_law_stock" s__law_stock f fd) : FOk P K "_law_stock" f := by
  have b : Binds K fd p__law_stock [] := F.binds (ps := p__law_stock) fun _ _ _ _ _ _ us hl => match us, hl with | [_, _, _, _], _ => rfl
  exact ⟨fd, p__law_stock, b, fun _ z => (nomatch z), _, _, _, _, _, F, sc__law_stock, rfl, rfl, rfl, ck__law_stock⟩
abbrev N__law_sheet : List Str := [nmS "_law_stuff", nmS "_law_word", nmS "_law_row"]
abbrev p__law_sheet : List Str := [nmS "_law_stuff", nmS "_law_word"]
theorem sc__law_sheet : FnScope N__law_sheet p__law_sheet (defScope s__law_sheet) := ⟨rfl, rfl, rfl, by decide +kernel, rfl, by decide +kernel, by decide +kernel⟩
theorem ck__law_sheet : chkSs ⟨defScope s__law_sheet, N__law_sheet, fun _ => true⟩ c__law_sheet.body (defBody s__law_sheet) = true := by decide +kernel
theorem ft__law_sheet {K : PySem.W.Frag} {f : Addr} {fd : FuncData} (F : L2.Fun K "_law_sheet" "_law_sheet" s__law_sheet f fd) : FOk P K "_law_sheet" f := by
  have b : Binds K fd p__law_sheet [] := F.binds (ps := p__law_sheet) fun _ _ _ _ _ _ us hl => match us, hl with | [_, _], _ => rfl
  exact ⟨fd, p__law_sheet, b, fun _ z => (nomatch z), _, _, _, _, _, F, sc__law_sheet, rfl, rfl, rfl, ck__law_sheet⟩
abbrev N__law_right : List Str := [nmS "_law_well_here", nmS "_law_turn", nmS "_law_stuff", nmS "_law_sheet_here", nmS "_law_mine", nmS "_law_twin", nmS "_law_seen_here", nmS "_law_due", nmS "_law_other", nmS "_law_mates", nmS "_law_mate", nmS "_law_row"]
abbrev p__law_right : List Str := [nmS "_law_well_here"]
theorem sc__law_right : FnScope N__law_right p__law_right (defScope s__law_right) := ⟨rfl, rfl, rfl, by decide +kernel, rfl, by decide +kernel, by decide +kernel⟩
theorem ck__law_right : chkSs ⟨defScope s__law_right, N__law_right, fun _ => true⟩ c__law_right.body (defBody s__law_right) = true := by decide +kernel
theorem ft__law_right {K : PySem.W.Frag} {f : Addr} {fd : FuncData} (F : L2.Fun K "_law_right" "_law_right" s__law_right f fd) : FOk P K "_law_right" f := by
  have b : Binds K fd p__law_right [] := F.binds (ps := p__law_right) fun _ _ _ _ _ _ us hl => match us, hl with | [_], _ => rfl
  exact ⟨fd, p__law_right, b, fun _ z => (nomatch z), _, _, _, _, _, F, sc__law_right, rfl, rfl, rfl, ck__law_right⟩
abbrev N_law : List Str := [nmS "_law_script", nmS "_law_turn"]
abbrev p_law : List Str := [nmS "_law_script"]
theorem sc_law : FnScope N_law p_law (defScope s_law) := ⟨rfl, rfl, rfl, by decide +kernel, rfl, by decide +kernel, by decide +kernel⟩
theorem ck_law : chkSs ⟨defScope s_law, N_law, fun _ => true⟩ c_law.body (defBody s_law) = true := by decide +kernel
theorem ft_law {K : PySem.W.Frag} {f : Addr} {fd : FuncData} (F : L2.Fun K "law" "law" s_law f fd) : FOk P K "law" f := by
  have b : Binds K fd p_law [] := F.binds (ps := p_law) fun _ _ _ _ _ _ us hl => match us, hl with | [_], _ => rfl
  exact ⟨fd, p_law, b, fun _ z => (nomatch z), _, _, _, _, _, F, sc_law, rfl, rfl, rfl, ck_law⟩
set_option maxHeartbeats 8000000 in
theorem all_mk {K : PySem.W.Frag} {h : Heap} {mg : Str → Option Value} {fa : Addr} (X : K.In h) (G : h.Ns mainGlobals mg) (hfa : mg "law" = some (.ref fa))
    {f__wall : Addr} {od__wall an__wall : Option Addr} {sl__wall : Array (Option Value)} {oc__wall kV__wall dc__wall pm__wall cd__wall ct__wall : Value}
    {f_is_name : Addr} {od_is_name an_is_name : Option Addr} {sl_is_name : Array (Option Value)} {oc_is_name kV_is_name dc_is_name pm_is_name cd_is_name ct_is_name : Value}
    {f_number_in : Addr} {od_number_in an_number_in : Option Addr} {sl_number_in : Array (Option Value)} {oc_number_in kV_number_in dc_number_in pm_number_in cd_number_in ct_number_in : Value}
    {f_rows_in : Addr} {od_rows_in an_rows_in : Option Addr} {sl_rows_in : Array (Option Value)} {oc_rows_in kV_rows_in dc_rows_in pm_rows_in cd_rows_in ct_rows_in : Value}
    {f_text_of : Addr} {od_text_of an_text_of : Option Addr} {sl_text_of : Array (Option Value)} {oc_text_of kV_text_of dc_text_of pm_text_of cd_text_of ct_text_of : Value}
    {f_check_known : Addr} {od_check_known an_check_known : Option Addr} {sl_check_known : Array (Option Value)} {oc_check_known kV_check_known dc_check_known pm_check_known cd_check_known ct_check_known : Value}
    {f__law_well : Addr} {od__law_well an__law_well : Option Addr} {sl__law_well : Array (Option Value)} {oc__law_well kV__law_well dc__law_well pm__law_well cd__law_well ct__law_well : Value}
    {f__law_dip : Addr} {od__law_dip an__law_dip : Option Addr} {sl__law_dip : Array (Option Value)} {oc__law_dip kV__law_dip dc__law_dip pm__law_dip cd__law_dip ct__law_dip : Value}
    {f__law_pick : Addr} {od__law_pick an__law_pick : Option Addr} {sl__law_pick : Array (Option Value)} {oc__law_pick kV__law_pick dc__law_pick pm__law_pick cd__law_pick ct__law_pick : Value}
    {f__law_terms : Addr} {od__law_terms an__law_terms : Option Addr} {sl__law_terms : Array (Option Value)} {oc__law_terms kV__law_terms dc__law_terms pm__law_terms cd__law_terms ct__law_terms : Value}
    {f__law_up : Addr} {od__law_up an__law_up : Option Addr} {sl__law_up : Array (Option Value)} {oc__law_up kV__law_up dc__law_up pm__law_up cd__law_up ct__law_up : Value}
    {f__law_stock : Addr} {od__law_stock an__law_stock : Option Addr} {sl__law_stock : Array (Option Value)} {oc__law_stock kV__law_stock dc__law_stock pm__law_stock cd__law_stock ct__law_stock : Value}
    {f__law_sheet : Addr} {od__law_sheet an__law_sheet : Option Addr} {sl__law_sheet : Array (Option Value)} {oc__law_sheet kV__law_sheet dc__law_sheet pm__law_sheet cd__law_sheet ct__law_sheet : Value}
    {f__law_right : Addr} {od__law_right an__law_right : Option Addr} {sl__law_right : Array (Option Value)} {oc__law_right kV__law_right dc__law_right pm__law_right cd__law_right ct__law_right : Value}
    {f_law : Addr} {od_law an_law : Option Addr} {sl_law : Array (Option Value)} {oc_law kV_law dc_law pm_law cd_law ct_law : Value}
    {C_Programme : Addr}
    {f_ProgrammeD_initD : Addr} {od_ProgrammeD_initD an_ProgrammeD_initD : Option Addr} {sl_ProgrammeD_initD : Array (Option Value)} {oc_ProgrammeD_initD kV_ProgrammeD_initD dc_ProgrammeD_initD pm_ProgrammeD_initD cd_ProgrammeD_initD ct_ProgrammeD_initD : Value}
    {f_Programme_put : Addr} {od_Programme_put an_Programme_put : Option Addr} {sl_Programme_put : Array (Option Value)} {oc_Programme_put kV_Programme_put dc_Programme_put pm_Programme_put cd_Programme_put ct_Programme_put : Value}
    {f_Programme_without : Addr} {od_Programme_without an_Programme_without : Option Addr} {sl_Programme_without : Array (Option Value)} {oc_Programme_without kV_Programme_without dc_Programme_without pm_Programme_without cd_Programme_without ct_Programme_without : Value}
    {f_ProgrammeD_eqD : Addr} {od_ProgrammeD_eqD an_ProgrammeD_eqD : Option Addr} {sl_ProgrammeD_eqD : Array (Option Value)} {oc_ProgrammeD_eqD kV_ProgrammeD_eqD dc_ProgrammeD_eqD pm_ProgrammeD_eqD cd_ProgrammeD_eqD ct_ProgrammeD_eqD : Value}
    {f_ProgrammeD_strD : Addr} {od_ProgrammeD_strD an_ProgrammeD_strD : Option Addr} {sl_ProgrammeD_strD : Array (Option Value)} {oc_ProgrammeD_strD kV_ProgrammeD_strD dc_ProgrammeD_strD pm_ProgrammeD_strD cd_ProgrammeD_strD ct_ProgrammeD_strD : Value}
    {f_ProgrammeD_reprD : Addr} {od_ProgrammeD_reprD an_ProgrammeD_reprD : Option Addr} {sl_ProgrammeD_reprD : Array (Option Value)} {oc_ProgrammeD_reprD kV_ProgrammeD_reprD dc_ProgrammeD_reprD pm_ProgrammeD_reprD cd_ProgrammeD_reprD ct_ProgrammeD_reprD : Value}
    {f_Programme_text : Addr} {od_Programme_text an_Programme_text : Option Addr} {sl_Programme_text : Array (Option Value)} {oc_Programme_text kV_Programme_text dc_Programme_text pm_Programme_text cd_Programme_text ct_Programme_text : Value}
    {p_Programme_text : Addr} {r_Programme_text : List Value}
    {f_Programme_uses : Addr} {od_Programme_uses an_Programme_uses : Option Addr} {sl_Programme_uses : Array (Option Value)} {oc_Programme_uses kV_Programme_uses dc_Programme_uses pm_Programme_uses cd_Programme_uses ct_Programme_uses : Value}
    {p_Programme_uses : Addr} {r_Programme_uses : List Value}
    {f_Programme_cells : Addr} {od_Programme_cells an_Programme_cells : Option Addr} {sl_Programme_cells : Array (Option Value)} {oc_Programme_cells kV_Programme_cells dc_Programme_cells pm_Programme_cells cd_Programme_cells ct_Programme_cells : Value}
    {p_Programme_cells : Addr} {r_Programme_cells : List Value}
    {f_Programme_minutes : Addr} {od_Programme_minutes an_Programme_minutes : Option Addr} {sl_Programme_minutes : Array (Option Value)} {oc_Programme_minutes kV_Programme_minutes dc_Programme_minutes pm_Programme_minutes cd_Programme_minutes ct_Programme_minutes : Value}
    {p_Programme_minutes : Addr} {r_Programme_minutes : List Value}
    {t_MOST_USES : Tok}
    {t_MOST_MINUTES : Tok}
    {t_MOST_CELLS : Tok}
    {t_LETTERS : Tok}
    {t_FIGURES : Tok}
    {t_MOST_LETTERS : Tok}
    {t_MOST_FIGURES : Tok}
    (a__wall : PySem.W.nsIn K mainGlobals "_wall" = some (some (.ref f__wall)))
    (l__wall : K.lookup f__wall = some ⟨oc__wall, od__wall, .func (PySem.W.fnOf "_wall" "_wall" (defArgs s__wall) (defBody s__wall) (defScope s__wall) .none kV__wall dc__wall pm__wall an__wall cd__wall ct__wall), sl__wall⟩)
    (c__wall : PySem.W.codeIn K cd__wall "_wall" = true)
    (k__wall : PySem.W.keepIn K (.ref f__wall) = true)
    (a_is_name : PySem.W.nsIn K mainGlobals "is_name" = some (some (.ref f_is_name)))
    (l_is_name : K.lookup f_is_name = some ⟨oc_is_name, od_is_name, .func (PySem.W.fnOf "is_name" "is_name" (defArgs s_is_name) (defBody s_is_name) (defScope s_is_name) .none kV_is_name dc_is_name pm_is_name an_is_name cd_is_name ct_is_name), sl_is_name⟩)
    (c_is_name : PySem.W.codeIn K cd_is_name "is_name" = true)
    (k_is_name : PySem.W.keepIn K (.ref f_is_name) = true)
    (a_number_in : PySem.W.nsIn K mainGlobals "number_in" = some (some (.ref f_number_in)))
    (l_number_in : K.lookup f_number_in = some ⟨oc_number_in, od_number_in, .func (PySem.W.fnOf "number_in" "number_in" (defArgs s_number_in) (defBody s_number_in) (defScope s_number_in) .none kV_number_in dc_number_in pm_number_in an_number_in cd_number_in ct_number_in), sl_number_in⟩)
    (c_number_in : PySem.W.codeIn K cd_number_in "number_in" = true)
    (k_number_in : PySem.W.keepIn K (.ref f_number_in) = true)
    (a_rows_in : PySem.W.nsIn K mainGlobals "rows_in" = some (some (.ref f_rows_in)))
    (l_rows_in : K.lookup f_rows_in = some ⟨oc_rows_in, od_rows_in, .func (PySem.W.fnOf "rows_in" "rows_in" (defArgs s_rows_in) (defBody s_rows_in) (defScope s_rows_in) .none kV_rows_in dc_rows_in pm_rows_in an_rows_in cd_rows_in ct_rows_in), sl_rows_in⟩)
    (c_rows_in : PySem.W.codeIn K cd_rows_in "rows_in" = true)
    (k_rows_in : PySem.W.keepIn K (.ref f_rows_in) = true)
    (a_text_of : PySem.W.nsIn K mainGlobals "text_of" = some (some (.ref f_text_of)))
    (l_text_of : K.lookup f_text_of = some ⟨oc_text_of, od_text_of, .func (PySem.W.fnOf "text_of" "text_of" (defArgs s_text_of) (defBody s_text_of) (defScope s_text_of) .none kV_text_of dc_text_of pm_text_of an_text_of cd_text_of ct_text_of), sl_text_of⟩)
    (c_text_of : PySem.W.codeIn K cd_text_of "text_of" = true)
    (k_text_of : PySem.W.keepIn K (.ref f_text_of) = true)
    (a_check_known : PySem.W.nsIn K mainGlobals "check_known" = some (some (.ref f_check_known)))
    (l_check_known : K.lookup f_check_known = some ⟨oc_check_known, od_check_known, .func (PySem.W.fnOf "check_known" "check_known" (defArgs s_check_known) (defBody s_check_known) (defScope s_check_known) .none kV_check_known dc_check_known pm_check_known an_check_known cd_check_known ct_check_known), sl_check_known⟩)
    (c_check_known : PySem.W.codeIn K cd_check_known "check_known" = true)
    (k_check_known : PySem.W.keepIn K (.ref f_check_known) = true)
    (a__law_well : PySem.W.nsIn K mainGlobals "_law_well" = some (some (.ref f__law_well)))
    (l__law_well : K.lookup f__law_well = some ⟨oc__law_well, od__law_well, .func (PySem.W.fnOf "_law_well" "_law_well" (defArgs s__law_well) (defBody s__law_well) (defScope s__law_well) .none kV__law_well dc__law_well pm__law_well an__law_well cd__law_well ct__law_well), sl__law_well⟩)
    (c__law_well : PySem.W.codeIn K cd__law_well "_law_well" = true)
    (k__law_well : PySem.W.keepIn K (.ref f__law_well) = true)
    (a__law_dip : PySem.W.nsIn K mainGlobals "_law_dip" = some (some (.ref f__law_dip)))
    (l__law_dip : K.lookup f__law_dip = some ⟨oc__law_dip, od__law_dip, .func (PySem.W.fnOf "_law_dip" "_law_dip" (defArgs s__law_dip) (defBody s__law_dip) (defScope s__law_dip) .none kV__law_dip dc__law_dip pm__law_dip an__law_dip cd__law_dip ct__law_dip), sl__law_dip⟩)
    (c__law_dip : PySem.W.codeIn K cd__law_dip "_law_dip" = true)
    (k__law_dip : PySem.W.keepIn K (.ref f__law_dip) = true)
    (a__law_pick : PySem.W.nsIn K mainGlobals "_law_pick" = some (some (.ref f__law_pick)))
    (l__law_pick : K.lookup f__law_pick = some ⟨oc__law_pick, od__law_pick, .func (PySem.W.fnOf "_law_pick" "_law_pick" (defArgs s__law_pick) (defBody s__law_pick) (defScope s__law_pick) .none kV__law_pick dc__law_pick pm__law_pick an__law_pick cd__law_pick ct__law_pick), sl__law_pick⟩)
    (c__law_pick : PySem.W.codeIn K cd__law_pick "_law_pick" = true)
    (k__law_pick : PySem.W.keepIn K (.ref f__law_pick) = true)
    (a__law_terms : PySem.W.nsIn K mainGlobals "_law_terms" = some (some (.ref f__law_terms)))
    (l__law_terms : K.lookup f__law_terms = some ⟨oc__law_terms, od__law_terms, .func (PySem.W.fnOf "_law_terms" "_law_terms" (defArgs s__law_terms) (defBody s__law_terms) (defScope s__law_terms) .none kV__law_terms dc__law_terms pm__law_terms an__law_terms cd__law_terms ct__law_terms), sl__law_terms⟩)
    (c__law_terms : PySem.W.codeIn K cd__law_terms "_law_terms" = true)
    (k__law_terms : PySem.W.keepIn K (.ref f__law_terms) = true)
    (a__law_up : PySem.W.nsIn K mainGlobals "_law_up" = some (some (.ref f__law_up)))
    (l__law_up : K.lookup f__law_up = some ⟨oc__law_up, od__law_up, .func (PySem.W.fnOf "_law_up" "_law_up" (defArgs s__law_up) (defBody s__law_up) (defScope s__law_up) .none kV__law_up dc__law_up pm__law_up an__law_up cd__law_up ct__law_up), sl__law_up⟩)
    (c__law_up : PySem.W.codeIn K cd__law_up "_law_up" = true)
    (k__law_up : PySem.W.keepIn K (.ref f__law_up) = true)
    (a__law_stock : PySem.W.nsIn K mainGlobals "_law_stock" = some (some (.ref f__law_stock)))
    (l__law_stock : K.lookup f__law_stock = some ⟨oc__law_stock, od__law_stock, .func (PySem.W.fnOf "_law_stock" "_law_stock" (defArgs s__law_stock) (defBody s__law_stock) (defScope s__law_stock) .none kV__law_stock dc__law_stock pm__law_stock an__law_stock cd__law_stock ct__law_stock), sl__law_stock⟩)
    (c__law_stock : PySem.W.codeIn K cd__law_stock "_law_stock" = true)
    (k__law_stock : PySem.W.keepIn K (.ref f__law_stock) = true)
    (a__law_sheet : PySem.W.nsIn K mainGlobals "_law_sheet" = some (some (.ref f__law_sheet)))
    (l__law_sheet : K.lookup f__law_sheet = some ⟨oc__law_sheet, od__law_sheet, .func (PySem.W.fnOf "_law_sheet" "_law_sheet" (defArgs s__law_sheet) (defBody s__law_sheet) (defScope s__law_sheet) .none kV__law_sheet dc__law_sheet pm__law_sheet an__law_sheet cd__law_sheet ct__law_sheet), sl__law_sheet⟩)
    (c__law_sheet : PySem.W.codeIn K cd__law_sheet "_law_sheet" = true)
    (k__law_sheet : PySem.W.keepIn K (.ref f__law_sheet) = true)
    (a__law_right : PySem.W.nsIn K mainGlobals "_law_right" = some (some (.ref f__law_right)))
    (l__law_right : K.lookup f__law_right = some ⟨oc__law_right, od__law_right, .func (PySem.W.fnOf "_law_right" "_law_right" (defArgs s__law_right) (defBody s__law_right) (defScope s__law_right) .none kV__law_right dc__law_right pm__law_right an__law_right cd__law_right ct__law_right), sl__law_right⟩)
    (c__law_right : PySem.W.codeIn K cd__law_right "_law_right" = true)
    (k__law_right : PySem.W.keepIn K (.ref f__law_right) = true)
    (a_law : PySem.W.nsIn K mainGlobals "law" = some (some (.ref f_law)))
    (l_law : K.lookup f_law = some ⟨oc_law, od_law, .func (PySem.W.fnOf "law" "law" (defArgs s_law) (defBody s_law) (defScope s_law) .none kV_law dc_law pm_law an_law cd_law ct_law), sl_law⟩)
    (c_law : PySem.W.codeIn K cd_law "law" = true)
    (k_law : PySem.W.keepIn K (.ref f_law) = true)
    (a_Programme : PySem.W.nsIn K mainGlobals "Programme" = some (some (.ref C_Programme)))
    (pg_Programme : PySem.W.plainGet K C_Programme Str.empty = true)
    (hd_Programme : PySem.W.hasDictIn K C_Programme = true)
    (po_Programme : PySem.W.plainOver K C_Programme = true)
    (sa_Programme : PySem.W.findIn K (.ref C_Programme) "__setattr__" = some (some (.builtin "object.__setattr__")))
    (mk_Programme : PySem.W.makesIn K C_Programme = true)
    (kc_Programme : PySem.W.keepIn K (.ref C_Programme) = true)
    (cl_Programme : PySem.W.findIn K (.ref C_Programme) "__class__" = some (some (.builtin "object.__class__")))
    (mo_Programme : PySem.W.mroIn K C_Programme (.type "object") = some true)
    (x1_Programme_NoneType : PySem.W.kitOne K (.type "NoneType") (.ref C_Programme) = some false)
    (x2_Programme_NoneType : PySem.W.kitOne K (.ref C_Programme) (.type "NoneType") = some false)
    (nf_Programme_NoneType : PySem.W.notFirst K C_Programme (.type "NoneType") = true)
    (x1_Programme_bool : PySem.W.kitOne K (.type "bool") (.ref C_Programme) = some false)
    (x2_Programme_bool : PySem.W.kitOne K (.ref C_Programme) (.type "bool") = some false)
    (nf_Programme_bool : PySem.W.notFirst K C_Programme (.type "bool") = true)
    (x1_Programme_int : PySem.W.kitOne K (.type "int") (.ref C_Programme) = some false)
    (x2_Programme_int : PySem.W.kitOne K (.ref C_Programme) (.type "int") = some false)
    (nf_Programme_int : PySem.W.notFirst K C_Programme (.type "int") = true)
    (x1_Programme_str : PySem.W.kitOne K (.type "str") (.ref C_Programme) = some false)
    (x2_Programme_str : PySem.W.kitOne K (.ref C_Programme) (.type "str") = some false)
    (nf_Programme_str : PySem.W.notFirst K C_Programme (.type "str") = true)
    (x1_Programme_list : PySem.W.kitOne K (.type "list") (.ref C_Programme) = some false)
    (x2_Programme_list : PySem.W.kitOne K (.ref C_Programme) (.type "list") = some false)
    (nf_Programme_list : PySem.W.notFirst K C_Programme (.type "list") = true)
    (x1_Programme_tuple : PySem.W.kitOne K (.type "tuple") (.ref C_Programme) = some false)
    (x2_Programme_tuple : PySem.W.kitOne K (.ref C_Programme) (.type "tuple") = some false)
    (nf_Programme_tuple : PySem.W.notFirst K C_Programme (.type "tuple") = true)
    (x1_Programme_dict : PySem.W.kitOne K (.type "dict") (.ref C_Programme) = some false)
    (x2_Programme_dict : PySem.W.kitOne K (.ref C_Programme) (.type "dict") = some false)
    (nf_Programme_dict : PySem.W.notFirst K C_Programme (.type "dict") = true)
    (xc_Programme_Programme : PySem.W.kitOne K (.ref C_Programme) (.ref C_Programme) = some true)
    (nc_Programme_Programme : PySem.W.notFirst K C_Programme (.ref C_Programme) = true)
    (ne_Programme : PySem.W.findIn K (.ref C_Programme) "__ne__" = some (some (.builtin "object.__ne__")))
    (tb_Programme : PySem.W.findIn K (.ref C_Programme) "__bool__" = some none)
    (tl_Programme : PySem.W.findIn K (.ref C_Programme) "__len__" = some none)
    (a_ProgrammeD_initD : PySem.W.findIn K (.ref C_Programme) "__init__" = some (some (.ref f_ProgrammeD_initD)))
    (i_ProgrammeD_initD : PySem.W.isFn K (.ref f_ProgrammeD_initD) = true)
    (l_ProgrammeD_initD : K.lookup f_ProgrammeD_initD = some ⟨oc_ProgrammeD_initD, od_ProgrammeD_initD, .func (PySem.W.fnOf "__init__" "Programme.__init__" (defArgs s_ProgrammeD_initD) (defBody s_ProgrammeD_initD) (defScope s_ProgrammeD_initD) .none kV_ProgrammeD_initD dc_ProgrammeD_initD pm_ProgrammeD_initD an_ProgrammeD_initD cd_ProgrammeD_initD ct_ProgrammeD_initD), sl_ProgrammeD_initD⟩)
    (c_ProgrammeD_initD : PySem.W.codeIn K cd_ProgrammeD_initD "Programme.__init__" = true)
    (k_ProgrammeD_initD : PySem.W.keepIn K (.ref f_ProgrammeD_initD) = true)
    (a_Programme_put : PySem.W.findIn K (.ref C_Programme) "put" = some (some (.ref f_Programme_put)))
    (i_Programme_put : PySem.W.isFn K (.ref f_Programme_put) = true)
    (l_Programme_put : K.lookup f_Programme_put = some ⟨oc_Programme_put, od_Programme_put, .func (PySem.W.fnOf "put" "Programme.put" (defArgs s_Programme_put) (defBody s_Programme_put) (defScope s_Programme_put) .none kV_Programme_put dc_Programme_put pm_Programme_put an_Programme_put cd_Programme_put ct_Programme_put), sl_Programme_put⟩)
    (c_Programme_put : PySem.W.codeIn K cd_Programme_put "Programme.put" = true)
    (k_Programme_put : PySem.W.keepIn K (.ref f_Programme_put) = true)
    (a_Programme_without : PySem.W.findIn K (.ref C_Programme) "without" = some (some (.ref f_Programme_without)))
    (i_Programme_without : PySem.W.isFn K (.ref f_Programme_without) = true)
    (l_Programme_without : K.lookup f_Programme_without = some ⟨oc_Programme_without, od_Programme_without, .func (PySem.W.fnOf "without" "Programme.without" (defArgs s_Programme_without) (defBody s_Programme_without) (defScope s_Programme_without) .none kV_Programme_without dc_Programme_without pm_Programme_without an_Programme_without cd_Programme_without ct_Programme_without), sl_Programme_without⟩)
    (c_Programme_without : PySem.W.codeIn K cd_Programme_without "Programme.without" = true)
    (k_Programme_without : PySem.W.keepIn K (.ref f_Programme_without) = true)
    (a_ProgrammeD_eqD : PySem.W.findIn K (.ref C_Programme) "__eq__" = some (some (.ref f_ProgrammeD_eqD)))
    (i_ProgrammeD_eqD : PySem.W.isFn K (.ref f_ProgrammeD_eqD) = true)
    (l_ProgrammeD_eqD : K.lookup f_ProgrammeD_eqD = some ⟨oc_ProgrammeD_eqD, od_ProgrammeD_eqD, .func (PySem.W.fnOf "__eq__" "Programme.__eq__" (defArgs s_ProgrammeD_eqD) (defBody s_ProgrammeD_eqD) (defScope s_ProgrammeD_eqD) .none kV_ProgrammeD_eqD dc_ProgrammeD_eqD pm_ProgrammeD_eqD an_ProgrammeD_eqD cd_ProgrammeD_eqD ct_ProgrammeD_eqD), sl_ProgrammeD_eqD⟩)
    (c_ProgrammeD_eqD : PySem.W.codeIn K cd_ProgrammeD_eqD "Programme.__eq__" = true)
    (k_ProgrammeD_eqD : PySem.W.keepIn K (.ref f_ProgrammeD_eqD) = true)
    (a_ProgrammeD_strD : PySem.W.findIn K (.ref C_Programme) "__str__" = some (some (.ref f_ProgrammeD_strD)))
    (i_ProgrammeD_strD : PySem.W.isFn K (.ref f_ProgrammeD_strD) = true)
    (l_ProgrammeD_strD : K.lookup f_ProgrammeD_strD = some ⟨oc_ProgrammeD_strD, od_ProgrammeD_strD, .func (PySem.W.fnOf "__str__" "Programme.__str__" (defArgs s_ProgrammeD_strD) (defBody s_ProgrammeD_strD) (defScope s_ProgrammeD_strD) .none kV_ProgrammeD_strD dc_ProgrammeD_strD pm_ProgrammeD_strD an_ProgrammeD_strD cd_ProgrammeD_strD ct_ProgrammeD_strD), sl_ProgrammeD_strD⟩)
    (c_ProgrammeD_strD : PySem.W.codeIn K cd_ProgrammeD_strD "Programme.__str__" = true)
    (k_ProgrammeD_strD : PySem.W.keepIn K (.ref f_ProgrammeD_strD) = true)
    (a_ProgrammeD_reprD : PySem.W.findIn K (.ref C_Programme) "__repr__" = some (some (.ref f_ProgrammeD_reprD)))
    (i_ProgrammeD_reprD : PySem.W.isFn K (.ref f_ProgrammeD_reprD) = true)
    (l_ProgrammeD_reprD : K.lookup f_ProgrammeD_reprD = some ⟨oc_ProgrammeD_reprD, od_ProgrammeD_reprD, .func (PySem.W.fnOf "__repr__" "Programme.__repr__" (defArgs s_ProgrammeD_reprD) (defBody s_ProgrammeD_reprD) (defScope s_ProgrammeD_reprD) .none kV_ProgrammeD_reprD dc_ProgrammeD_reprD pm_ProgrammeD_reprD an_ProgrammeD_reprD cd_ProgrammeD_reprD ct_ProgrammeD_reprD), sl_ProgrammeD_reprD⟩)
    (c_ProgrammeD_reprD : PySem.W.codeIn K cd_ProgrammeD_reprD "Programme.__repr__" = true)
    (k_ProgrammeD_reprD : PySem.W.keepIn K (.ref f_ProgrammeD_reprD) = true)
    (a_Programme_text : PySem.W.findIn K (.ref C_Programme) "text" = some (some (.ref p_Programme_text)))
    (g_Programme_text : PySem.W.specialIn K (.ref p_Programme_text) "__get__" = some (some (.builtin "property.__get__")))
    (t_Programme_text : PySem.W.takesIn K (.ref p_Programme_text) = some true)
    (r_Programme_text : PySem.W.recIn K p_Programme_text "property" = some (.ref f_Programme_text :: r_Programme_text))
    (l_Programme_text : K.lookup f_Programme_text = some ⟨oc_Programme_text, od_Programme_text, .func (PySem.W.fnOf "text" "Programme.text" (defArgs s_Programme_text) (defBody s_Programme_text) (defScope s_Programme_text) .none kV_Programme_text dc_Programme_text pm_Programme_text an_Programme_text cd_Programme_text ct_Programme_text), sl_Programme_text⟩)
    (c_Programme_text : PySem.W.codeIn K cd_Programme_text "Programme.text" = true)
    (k_Programme_text : PySem.W.keepIn K (.ref f_Programme_text) = true)
    (a_Programme_uses : PySem.W.findIn K (.ref C_Programme) "uses" = some (some (.ref p_Programme_uses)))
    (g_Programme_uses : PySem.W.specialIn K (.ref p_Programme_uses) "__get__" = some (some (.builtin "property.__get__")))
    (t_Programme_uses : PySem.W.takesIn K (.ref p_Programme_uses) = some true)
    (r_Programme_uses : PySem.W.recIn K p_Programme_uses "property" = some (.ref f_Programme_uses :: r_Programme_uses))
    (l_Programme_uses : K.lookup f_Programme_uses = some ⟨oc_Programme_uses, od_Programme_uses, .func (PySem.W.fnOf "uses" "Programme.uses" (defArgs s_Programme_uses) (defBody s_Programme_uses) (defScope s_Programme_uses) .none kV_Programme_uses dc_Programme_uses pm_Programme_uses an_Programme_uses cd_Programme_uses ct_Programme_uses), sl_Programme_uses⟩)
    (c_Programme_uses : PySem.W.codeIn K cd_Programme_uses "Programme.uses" = true)
    (k_Programme_uses : PySem.W.keepIn K (.ref f_Programme_uses) = true)
    (a_Programme_cells : PySem.W.findIn K (.ref C_Programme) "cells" = some (some (.ref p_Programme_cells)))
    (g_Programme_cells : PySem.W.specialIn K (.ref p_Programme_cells) "__get__" = some (some (.builtin "property.__get__")))
    (t_Programme_cells : PySem.W.takesIn K (.ref p_Programme_cells) = some true)
    (r_Programme_cells : PySem.W.recIn K p_Programme_cells "property" = some (.ref f_Programme_cells :: r_Programme_cells))
    (l_Programme_cells : K.lookup f_Programme_cells = some ⟨oc_Programme_cells, od_Programme_cells, .func (PySem.W.fnOf "cells" "Programme.cells" (defArgs s_Programme_cells) (defBody s_Programme_cells) (defScope s_Programme_cells) .none kV_Programme_cells dc_Programme_cells pm_Programme_cells an_Programme_cells cd_Programme_cells ct_Programme_cells), sl_Programme_cells⟩)
    (c_Programme_cells : PySem.W.codeIn K cd_Programme_cells "Programme.cells" = true)
    (k_Programme_cells : PySem.W.keepIn K (.ref f_Programme_cells) = true)
    (a_Programme_minutes : PySem.W.findIn K (.ref C_Programme) "minutes" = some (some (.ref p_Programme_minutes)))
    (g_Programme_minutes : PySem.W.specialIn K (.ref p_Programme_minutes) "__get__" = some (some (.builtin "property.__get__")))
    (t_Programme_minutes : PySem.W.takesIn K (.ref p_Programme_minutes) = some true)
    (r_Programme_minutes : PySem.W.recIn K p_Programme_minutes "property" = some (.ref f_Programme_minutes :: r_Programme_minutes))
    (l_Programme_minutes : K.lookup f_Programme_minutes = some ⟨oc_Programme_minutes, od_Programme_minutes, .func (PySem.W.fnOf "minutes" "Programme.minutes" (defArgs s_Programme_minutes) (defBody s_Programme_minutes) (defScope s_Programme_minutes) .none kV_Programme_minutes dc_Programme_minutes pm_Programme_minutes an_Programme_minutes cd_Programme_minutes ct_Programme_minutes), sl_Programme_minutes⟩)
    (c_Programme_minutes : PySem.W.codeIn K cd_Programme_minutes "Programme.minutes" = true)
    (k_Programme_minutes : PySem.W.keepIn K (.ref f_Programme_minutes) = true)
    (n_Programme_lines : PySem.W.findIn K (.ref C_Programme) "lines" = some none)
    (n_Programme_wording : PySem.W.findIn K (.ref C_Programme) "wording" = some none)
    (oc1 : PySem.W.specialIn K (.builtin "object.__class__") "__get__" = some (some (.builtin "getset_descriptor.__get__")))
    (oc2 : PySem.W.takesIn K (.builtin "object.__class__") = some true)
    (b_len : PySem.W.nsIn K mainGlobals "len" = some none)
    (b_sum : PySem.W.nsIn K mainGlobals "sum" = some none)
    (b_min : PySem.W.nsIn K mainGlobals "min" = some none)
    (b_max : PySem.W.nsIn K mainGlobals "max" = some none)
    (b_abs : PySem.W.nsIn K mainGlobals "abs" = some none)
    (b_all : PySem.W.nsIn K mainGlobals "all" = some none)
    (b_any : PySem.W.nsIn K mainGlobals "any" = some none)
    (b_int : PySem.W.nsIn K mainGlobals "int" = some none)
    (b_bool : PySem.W.nsIn K mainGlobals "bool" = some none)
    (b_tuple : PySem.W.nsIn K mainGlobals "tuple" = some none)
    (b_list : PySem.W.nsIn K mainGlobals "list" = some none)
    (b_sorted : PySem.W.nsIn K mainGlobals "sorted" = some none)
    (b_str : PySem.W.nsIn K mainGlobals "str" = some none)
    (b_repr : PySem.W.nsIn K mainGlobals "repr" = some none)
    (b_divmod : PySem.W.nsIn K mainGlobals "divmod" = some none)
    (b_set : PySem.W.nsIn K mainGlobals "set" = some none)
    (b_dict : PySem.W.nsIn K mainGlobals "dict" = some none)
    (b_range : PySem.W.nsIn K mainGlobals "range" = some none)
    (b_enumerate : PySem.W.nsIn K mainGlobals "enumerate" = some none)
    (b_zip : PySem.W.nsIn K mainGlobals "zip" = some none)
    (b_isinstance : PySem.W.nsIn K mainGlobals "isinstance" = some none)
    (g_MOST_USES : PySem.W.nsIn K mainGlobals "MOST_USES" = some (some (.int (6) t_MOST_USES)))
    (g_MOST_MINUTES : PySem.W.nsIn K mainGlobals "MOST_MINUTES" = some (some (.int (1000000000000) t_MOST_MINUTES)))
    (g_MOST_CELLS : PySem.W.nsIn K mainGlobals "MOST_CELLS" = some (some (.int (1000000000000000000000000000000) t_MOST_CELLS)))
    (g_LETTERS : PySem.W.nsIn K mainGlobals "LETTERS" = some (some (.str (nmS "abcdefghijklmnopqrstuvwxyz") t_LETTERS)))
    (g_FIGURES : PySem.W.nsIn K mainGlobals "FIGURES" = some (some (.str (nmS "0123456789") t_FIGURES)))
    (g_MOST_LETTERS : PySem.W.nsIn K mainGlobals "MOST_LETTERS" = some (some (.int (8) t_MOST_LETTERS)))
    (g_MOST_FIGURES : PySem.W.nsIn K mainGlobals "MOST_FIGURES" = some (some (.int (60) t_MOST_FIGURES)))
    : SOk (caOf K) P K mg ∧ FOk P K "law" fa := by
  have e := hfa.symm.trans (PySem.W.mg_of X G a_law)
  cases e
  have ca_Programme : caOf K "Programme" = some C_Programme := caOf_is a_Programme
  refine ⟨⟨?fns, ?cls, ?isF, ?isG, ?isE, ?isC, ?blt, ?gl⟩, ft_law (fun_mk (st := s_law) l_law c_law k_law)⟩
  case fns => exact (allc ⟨_, PySem.W.mg_of X G a__wall, k__wall, ft__wall (fun_mk (st := s__wall) l__wall c__wall k__wall)⟩ (allc ⟨_, PySem.W.mg_of X G a_is_name, k_is_name, ft_is_name (fun_mk (st := s_is_name) l_is_name c_is_name k_is_name)⟩ (allc ⟨_, PySem.W.mg_of X G a_number_in, k_number_in, ft_number_in (fun_mk (st := s_number_in) l_number_in c_number_in k_number_in)⟩ (allc ⟨_, PySem.W.mg_of X G a_rows_in, k_rows_in, ft_rows_in (fun_mk (st := s_rows_in) l_rows_in c_rows_in k_rows_in)⟩ (allc ⟨_, PySem.W.mg_of X G a_text_of, k_text_of, ft_text_of (fun_mk (st := s_text_of) l_text_of c_text_of k_text_of)⟩ (allc ⟨_, PySem.W.mg_of X G a_check_known, k_check_known, ft_check_known (fun_mk (st := s_check_known) l_check_known c_check_known k_check_known)⟩ (allc ⟨_, PySem.W.mg_of X G a__law_well, k__law_well, ft__law_well (fun_mk (st := s__law_well) l__law_well c__law_well k__law_well)⟩ (allc ⟨_, PySem.W.mg_of X G a__law_dip, k__law_dip, ft__law_dip (fun_mk (st := s__law_dip) l__law_dip c__law_dip k__law_dip)⟩ (allc ⟨_, PySem.W.mg_of X G a__law_pick, k__law_pick, ft__law_pick (fun_mk (st := s__law_pick) l__law_pick c__law_pick k__law_pick)⟩ (allc ⟨_, PySem.W.mg_of X G a__law_terms, k__law_terms, ft__law_terms (fun_mk (st := s__law_terms) l__law_terms c__law_terms k__law_terms)⟩ (allc ⟨_, PySem.W.mg_of X G a__law_up, k__law_up, ft__law_up (fun_mk (st := s__law_up) l__law_up c__law_up k__law_up)⟩ (allc ⟨_, PySem.W.mg_of X G a__law_stock, k__law_stock, ft__law_stock (fun_mk (st := s__law_stock) l__law_stock c__law_stock k__law_stock)⟩ (allc ⟨_, PySem.W.mg_of X G a__law_sheet, k__law_sheet, ft__law_sheet (fun_mk (st := s__law_sheet) l__law_sheet c__law_sheet k__law_sheet)⟩ (allc ⟨_, PySem.W.mg_of X G a__law_right, k__law_right, ft__law_right (fun_mk (st := s__law_right) l__law_right c__law_right k__law_right)⟩ (allc ⟨_, PySem.W.mg_of X G a_law, k_law, ft_law (fun_mk (st := s_law) l_law c_law k_law)⟩ alln)))))))))))))))
  case cls => exact (lookc ⟨C_Programme, ca_Programme, PySem.W.mg_of X G a_Programme, ⟨pg_Programme, hd_Programme, po_Programme, sa_Programme⟩, (lookc ⟨_, ⟨a_ProgrammeD_initD, i_ProgrammeD_initD, k_ProgrammeD_initD⟩, ft_ProgrammeD_initD (fun_mk (st := s_ProgrammeD_initD) l_ProgrammeD_initD c_ProgrammeD_initD k_ProgrammeD_initD)⟩ (lookc ⟨_, ⟨a_Programme_put, i_Programme_put, k_Programme_put⟩, ft_Programme_put (fun_mk (st := s_Programme_put) l_Programme_put c_Programme_put k_Programme_put)⟩ (lookc ⟨_, ⟨a_Programme_without, i_Programme_without, k_Programme_without⟩, ft_Programme_without (fun_mk (st := s_Programme_without) l_Programme_without c_Programme_without k_Programme_without)⟩ (lookc ⟨_, ⟨a_ProgrammeD_eqD, i_ProgrammeD_eqD, k_ProgrammeD_eqD⟩, ft_ProgrammeD_eqD (fun_mk (st := s_ProgrammeD_eqD) l_ProgrammeD_eqD c_ProgrammeD_eqD k_ProgrammeD_eqD)⟩ (lookc ⟨_, ⟨a_ProgrammeD_strD, i_ProgrammeD_strD, k_ProgrammeD_strD⟩, ft_ProgrammeD_strD (fun_mk (st := s_ProgrammeD_strD) l_ProgrammeD_strD c_ProgrammeD_strD k_ProgrammeD_strD)⟩ (lookc ⟨_, ⟨a_ProgrammeD_reprD, i_ProgrammeD_reprD, k_ProgrammeD_reprD⟩, ft_ProgrammeD_reprD (fun_mk (st := s_ProgrammeD_reprD) l_ProgrammeD_reprD c_ProgrammeD_reprD k_ProgrammeD_reprD)⟩ lookn)))))), fun f hf => by cases hf; exact ⟨_, ⟨mk_Programme, a_ProgrammeD_initD, i_ProgrammeD_initD, kc_Programme⟩, ft_ProgrammeD_initD (fun_mk (st := s_ProgrammeD_initD) l_ProgrammeD_initD c_ProgrammeD_initD k_ProgrammeD_initD)⟩, (lookc ⟨_, _, ⟨a_Programme_text, g_Programme_text, t_Programme_text, ⟨_, r_Programme_text⟩⟩, ft_Programme_text (fun_mk (st := s_Programme_text) l_Programme_text c_Programme_text k_Programme_text)⟩ (lookc ⟨_, _, ⟨a_Programme_uses, g_Programme_uses, t_Programme_uses, ⟨_, r_Programme_uses⟩⟩, ft_Programme_uses (fun_mk (st := s_Programme_uses) l_Programme_uses c_Programme_uses k_Programme_uses)⟩ (lookc ⟨_, _, ⟨a_Programme_cells, g_Programme_cells, t_Programme_cells, ⟨_, r_Programme_cells⟩⟩, ft_Programme_cells (fun_mk (st := s_Programme_cells) l_Programme_cells c_Programme_cells k_Programme_cells)⟩ (lookc ⟨_, _, ⟨a_Programme_minutes, g_Programme_minutes, t_Programme_minutes, ⟨_, r_Programme_minutes⟩⟩, ft_Programme_minutes (fun_mk (st := s_Programme_minutes) l_Programme_minutes c_Programme_minutes k_Programme_minutes)⟩ lookn)))), fun f hf => by have hf := List.contains_iff_mem.mp hf; exact ((allc n_Programme_lines (allc n_Programme_wording alln)) : ∀ f, f ∈ k_Programme.flds → NoAttr K C_Programme (nmS f)) f hf⟩ lookn)
  case isF => exact look3 (lookc (fun C hC => by rw [ca_Programme] at hC; cases hC; exact ⟨cl_Programme, mo_Programme, (allc ⟨x1_Programme_NoneType, x2_Programme_NoneType⟩ (allc ⟨x1_Programme_bool, x2_Programme_bool⟩ (allc ⟨x1_Programme_int, x2_Programme_int⟩ (allc ⟨x1_Programme_str, x2_Programme_str⟩ (allc ⟨x1_Programme_list, x2_Programme_list⟩ (allc ⟨x1_Programme_tuple, x2_Programme_tuple⟩ (allc ⟨x1_Programme_dict, x2_Programme_dict⟩ alln)))))))⟩) lookn)
  case isG => exact fun _ => ⟨oc1, oc2⟩
  case isE => exact look3 (lookc (fun C hC => by rw [ca_Programme] at hC; cases hC; exact ⟨fun _ => ⟨(allc nf_Programme_NoneType (allc nf_Programme_bool (allc nf_Programme_int (allc nf_Programme_str (allc nf_Programme_list (allc nf_Programme_tuple (allc nf_Programme_dict alln))))))), lookS (lookc (fun C' h2 => by rw [ca_Programme] at h2; cases h2; exact nc_Programme_Programme) lookn)⟩, fun _ => ne_Programme, fun _ => ⟨tb_Programme, tl_Programme⟩⟩) lookn)
  case isC => exact look4 (lookc (fun C hC => by rw [ca_Programme] at hC; cases hC; exact (lookc (fun C' h2 => by rw [ca_Programme] at h2; cases h2; exact xc_Programme_Programme.trans (by decide)) lookn)) lookn)
  case blt => exact (allc (PySem.W.mg_none_of X G b_len) (allc (PySem.W.mg_none_of X G b_sum) (allc (PySem.W.mg_none_of X G b_min) (allc (PySem.W.mg_none_of X G b_max) (allc (PySem.W.mg_none_of X G b_abs) (allc (PySem.W.mg_none_of X G b_all) (allc (PySem.W.mg_none_of X G b_any) (allc (PySem.W.mg_none_of X G b_int) (allc (PySem.W.mg_none_of X G b_bool) (allc (PySem.W.mg_none_of X G b_tuple) (allc (PySem.W.mg_none_of X G b_list) (allc (PySem.W.mg_none_of X G b_sorted) (allc (PySem.W.mg_none_of X G b_str) (allc (PySem.W.mg_none_of X G b_repr) (allc (PySem.W.mg_none_of X G b_divmod) (allc (PySem.W.mg_none_of X G b_set) (allc (PySem.W.mg_none_of X G b_dict) (allc (PySem.W.mg_none_of X G b_range) (allc (PySem.W.mg_none_of X G b_enumerate) (allc (PySem.W.mg_none_of X G b_zip) (allc (PySem.W.mg_none_of X G b_isinstance) alln)))))))))))))))))))))
  case gl => exact (lookc ⟨_, .int _, PySem.W.mg_of X G g_MOST_USES, ⟨_, rfl⟩, fun _ _ => .int _⟩ (lookc ⟨_, .int _, PySem.W.mg_of X G g_MOST_MINUTES, ⟨_, rfl⟩, fun _ _ => .int _⟩ (lookc ⟨_, .int _, PySem.W.mg_of X G g_MOST_CELLS, ⟨_, rfl⟩, fun _ _ => .int _⟩ (lookc ⟨_, .str _, PySem.W.mg_of X G g_LETTERS, ⟨_, rfl⟩, fun _ _ => .str _⟩ (lookc ⟨_, .str _, PySem.W.mg_of X G g_FIGURES, ⟨_, rfl⟩, fun _ _ => .str _⟩ (lookc ⟨_, .int _, PySem.W.mg_of X G g_MOST_LETTERS, ⟨_, rfl⟩, fun _ _ => .int _⟩ (lookc ⟨_, .int _, PySem.W.mg_of X G g_MOST_FIGURES, ⟨_, rfl⟩, fun _ _ => .int _⟩ lookn)))))))
end Law_k05
end

section
set_option linter.all false
set_option autoImplicit false
set_option maxRecDepth 4000
set_option maxHeartbeats 1000000
open PySem MP MP.C L2 PyProof.Rows
local macro_rules | `(tactic| decreasing_trivial_pre_omega) => `(tactic| first | with_reducible assumption | exact bigOk_of (by omega) | omega)
local macro_rules | `(tactic| ac_rfl) => `(tactic| (repeat (first | with_reducible exact GetAt.z | with_reducible apply GetAt.s | with_reducible exact SetAt.z | with_reducible apply SetAt.s | with_reducible exact WipeAt.n | with_reducible apply WipeAt.c | with_reducible exact SetM.n | with_reducible apply SetM.c | with_reducible exact StartAt.z | apply StartAt.a | apply StartAt.p | with_reducible assumption | ((with_reducible apply CellAt.last); (focus ((repeat (first | with_reducible apply LenAt.snoc | with_reducible exact LenAt.base)); done))) | with_reducible apply CellAt.skip | with_reducible apply CellAt.setS | with_reducible apply LenAt.snoc | with_reducible exact LenAt.base | ((with_reducible apply CellSet.last); (focus ((repeat (first | with_reducible apply LenAt.snoc | with_reducible exact LenAt.base)); done))) | with_reducible apply CellSet.skip | with_reducible apply CellSet.setS | with_reducible apply CellSet.base | with_reducible exact LSet.z | with_reducible apply LSet.s)))
local macro_rules | `(tactic| infer_instance) => `(tactic| (first
  | with_reducible apply WSs.cons | with_reducible apply WSs.nil | with_reducible apply WS.set | with_reducible apply WS.ret | with_reducible apply WS.ifS | with_reducible apply WS.expr | with_reducible apply WS.par | with_reducible apply WS.setItem | with_reducible apply WS.setAttr | with_reducible apply WS.retN | with_reducible apply WS.pass | with_reducible apply WS.brk | with_reducible apply WS.cont | with_reducible apply WS.raise | with_reducible apply WS.forS
  | ((with_reducible apply WS.aug); (focus (ac_rfl; done)))
  | ((with_reducible apply WE.var); (focus (ac_rfl; done)))
  | with_reducible apply WE.cst | with_reducible apply WE.bin | with_reducible apply WE.item | with_reducible apply WE.cmp | with_reducible apply WEs.cons | with_reducible apply WEs.nil | with_reducible apply WE.prim
  | ((with_reducible apply WE.call); (focus (first | exact HasF.gl | assumption | rfl | decide)))
  | with_reducible apply WE.andT | with_reducible apply WE.orT | with_reducible apply WE.notT | ((with_reducible apply WE.t); (focus (exact rfl))) | with_reducible apply WE.rng | with_reducible apply WE.enu | with_reducible apply WE.zip | ((with_reducible apply WE.i); (focus (exact rfl)))
  | with_reducible apply WE.andV | with_reducible apply WE.orV | with_reducible apply WE.notV | with_reducible apply WE.ite | with_reducible apply WE.chain | with_reducible apply WE.neg
  | ((with_reducible apply WE.gc); (focus (first | exact HasG.gl | assumption | rfl)))
  | with_reducible apply WE.tup | with_reducible apply WE.lstF | with_reducible apply WE.lstT | with_reducible apply WE.slNS | with_reducible apply WE.slSN | with_reducible apply WE.slSS | with_reducible apply WE.slNN | with_reducible apply WE.meth | ((with_reducible apply WE.callK); (focus (exact rfl))) | ((with_reducible apply WE.new); (focus (first | exact rfl | (rw [HasC.cl]; exact rfl)))) | ((with_reducible apply WE.newK); (focus (first | exact rfl | (rw [HasC.cl]; exact rfl))); (focus (first | exact HasK.kw | exact rfl))) | with_reducible apply WE.ometh | with_reducible apply WE.attr | ((with_reducible apply WE.isi); (focus (first | exact rfl | (simp [tyOk, HasC.cl]; done))))
  | with_reducible apply WE.fmt | with_reducible apply WE.fstr | with_reducible apply WFs.nil | with_reducible apply WFs.cons | with_reducible apply WE.frz | ((with_reducible apply WE.dct0); (focus (ac_rfl; done))) | with_reducible apply WE.oeq | with_reducible apply WE.ostr | with_reducible apply WE.orepr | with_reducible apply WE.obool
  | ((with_reducible apply WE.lc); (focus (ac_rfl; done)))
  | ((with_reducible apply WB.var); (focus (ac_rfl; done)))
  | ((with_reducible apply WB.tup); (focus (exact rfl))) | with_reducible apply WBs.cons | with_reducible apply WBs.nil
  | with_reducible apply exBl | with_reducible apply exInt | with_reducible apply exStr
  | with_reducible refine ⟨_, by (ac_rfl; done), ?_⟩
  | ((with_reducible apply lenLit); (focus (exact rfl)))
  | ((with_reducible apply WO.mul); (focus (decreasing_trivial_pre_omega; done)); (focus (decreasing_trivial_pre_omega; done)))
  | ((with_reducible apply WO.fdiv); (focus (decreasing_trivial_pre_omega; done)); (focus (decreasing_trivial_pre_omega; done)))
  | ((with_reducible apply WO.mod); (focus (decreasing_trivial_pre_omega; done)))
  | ((with_reducible apply WO.p10); (focus (exact rfl))) | ((with_reducible apply WO.storeAttr); (focus (ac_rfl; done)); (focus (exact HasC.cl)); (focus (exact rfl)); (focus (ac_rfl; done)))
  | ((with_reducible apply WA.fld); (focus (exact HasC.cl)); (focus (exact rfl)); (focus (exact rfl)); (focus (exact rfl))) | ((with_reducible apply WA.prop); (focus (exact HasC.cl)); (focus (exact rfl)))
  | with_reducible apply WO.eqI | with_reducible apply WO.neI | with_reducible apply WO.eqS | with_reducible apply WO.neS | with_reducible apply WO.min2 | with_reducible apply WO.max2 | with_reducible apply WO.abs1 | with_reducible apply WO.lenM | with_reducible apply WO.lenTM
  | with_reducible apply WO.sumL | with_reducible apply WO.allL | with_reducible apply WO.anyL | ((with_reducible apply WO.rngN); (focus (omega))) | ((with_reducible apply WO.rngL); (focus (omega)))
  | ((with_reducible apply WO.itemOL); (focus (ac_rfl; done)); (focus (exact rfl)))
  | ((with_reducible apply WO.storeLL); (focus (ac_rfl; done)); (focus (ac_rfl; done)); (focus (ac_rfl; done)))
  | ((with_reducible apply WO.itemD); (focus (ac_rfl; done)); (focus (exact rfl)); (focus (with_reducible assumption))) | ((with_reducible apply WO.inD); (focus (ac_rfl; done)); (focus (exact rfl))) | ((with_reducible apply WO.notinD); (focus (ac_rfl; done)); (focus (exact rfl)))
  | with_reducible apply WO.slM | with_reducible apply WO.slTM
  | with_reducible apply WO.itemC | with_reducible apply WO.itemTC
  | ((fail_if_success (with_reducible apply WO.gMul)); (fail_if_success (with_reducible apply WO.gDiv)); (with_reducible apply WO.mk'); (focus (first | with_reducible assumption | exact rfl)))
  | ((with_reducible apply WO.addS); (focus (first | with_reducible assumption | exact LINE_m (by (try simp only [len_app']); omega))))
  | ((with_reducible apply recvS); (focus (exact rfl))) | ((with_reducible apply recvL); (focus (exact rfl))) | ((with_reducible apply recvO); (focus (ac_rfl; done)); (focus (exact rfl))) | ((with_reducible apply clsK); (focus (first | with_reducible assumption | exact rfl)))
  | ((with_reducible apply appK); (focus (ac_rfl; done)); (focus (first | with_reducible assumption | exact LINE_ml (by (try simp only [List.length_map, List.length_append, List.length_cons, List.length_nil]); omega))); (focus (ac_rfl; done)))
  | ((with_reducible apply WO.storeD); (focus (ac_rfl; done)); (focus (exact rfl)); (focus (first | with_reducible assumption | exact LINE_ml (by (try simp only [List.length_map, List.length_append, List.length_cons, List.length_nil]); omega))); (focus (ac_rfl; done)))
  | ((with_reducible apply brP); (focus (first | with_reducible assumption | exact rfl))) | ((with_reducible apply brN); (focus (first | with_reducible assumption | exact rfl))) | ((with_reducible apply brP'); (focus (first | with_reducible assumption | exact rfl))) | ((with_reducible apply brN'); (focus (first | with_reducible assumption | exact rfl)))
  | ((with_reducible apply WO.lenOM); (focus (ac_rfl; done))) | ((with_reducible apply WO.lenO); (focus (ac_rfl; done))) | ((with_reducible apply WO.tupO); (focus (ac_rfl; done))) | ((with_reducible apply WO.iterO); (focus (ac_rfl; done))) | ((with_reducible apply WZ.lst); (focus (ac_rfl; done)); (focus (ac_rfl; done)))
  | ((with_reducible apply WT.same); (focus ((repeat (first | with_reducible exact LenIs.base | with_reducible apply LenIs.set | ((with_reducible apply LenIs.dr); (focus (with_reducible assumption))))); done)))
  | ((with_reducible apply WT.pre); (focus ((repeat (first | with_reducible apply Pre.snoc | with_reducible exact Pre.refl)); done)); (focus ((repeat (first | with_reducible exact LenIs.base | with_reducible apply LenIs.set | ((with_reducible apply LenIs.dr); (focus (with_reducible assumption))))); done)); (focus (first | with_reducible assumption | exact rfl | exact plain_tup (fun _ => rfl) | exact plain_lst (fun _ => rfl))); (focus (first | with_reducible assumption | exact Dr.stay (by with_reducible assumption) (by with_reducible assumption))))
  | ((with_reducible apply WT.len); (focus ((simp only [List.length_append, List.length_set, List.length_cons, List.length_nil]); done)))
  | ((with_reducible apply WL.map); (focus (intro _ hx; (try have hx' := List.mem_range.mp hx); (repeat infer_instance); (with_reducible exact mapRR))); (focus (first | with_reducible assumption | exact LINE_m (by (try simp only [List.length_map, List.length_append, List.length_cons, List.length_nil, List.length_range]); omega))); ((with_reducible apply mk_f); (focus (first | with_reducible assumption | exact LINE_m (by (try simp only [List.length_map, List.length_append, List.length_cons, List.length_nil, List.length_range]); omega)))))))
namespace MP
structure Wl (S : Store) (w : Nat) (m : Nat) : Prop where
  h : ∃ b s k : Int, CellAt S w (.lst [.int b, .int s, .int k]) ∧ 0 ≤ b ∧ s.natAbs < 10 ^ 30 ∧ 0 ≤ k ∧ k + m ≤ 10 ^ 30
theorem Wl.less {S : Store} {w m n : Nat} (h : Wl S w m) (hn : n ≤ m) : Wl S w n := by
  obtain ⟨b, s, k, e, h1, h2, h3, h4⟩ := h
  exact ⟨b, s, k, e, h1, h2, h3, by omega⟩
theorem Wl.lt {S : Store} {w m : Nat} (h : Wl S w m) : w < S.length := by
  obtain ⟨b, s, k, e, h1, h2, h3, h4⟩ := h
  exact e.lt
theorem Wl.refl {S : Store} {w m : Nat} (h : Wl S w m) : Dr w S S := by
  obtain ⟨b, s, k, e, h1, h2, h3, h4⟩ := h
  refine ⟨.lst [.int b, .int s, .int k], ?_, ?_⟩
  · obtain ⟨hn, e⟩ := List.getElem?_eq_some_iff.mp e.h
    rw [← e]; exact (List.set_getElem_self hn).symm
  · rfl
theorem Wl.snoc {S : Store} {w m : Nat} {c : Cell} (h : Wl S w m) : Wl (S ++ [c]) w m := by
  obtain ⟨b, s, k, e, h1, h2, h3, h4⟩ := h
  exact ⟨b, s, k, e.skip, h1, h2, h3, by omega⟩
theorem Wl.of_snoc {S : Store} {w m : Nat} {c : Cell} (h : Wl (S ++ [c]) w m) (hw : w < S.length) : Wl S w m := by
  obtain ⟨b, s, k, e, h1, h2, h3, h4⟩ := h
  exact ⟨b, s, k, ⟨by have := e.h; rwa [List.getElem?_append_left hw] at this⟩, h1, h2, h3, by omega⟩
section
variable {P : Prog} [Has P "_law_dip" c__law_dip] [HasF P "_law_dip"] {w m n : Nat} {S : Store}
theorem dip_w {size : Int} (hn : 1 ≤ n) (hw : Wl S w (m + 1)) (h1 : 1 ≤ size) (h2 : size ≤ 10 ^ 40) :
    WC (callF P n) "_law_dip" [.own w, .int size] S (fun d S' => ∃ r, d = .int r ∧ 0 ≤ r ∧ r < size ∧ Dr w S S' ∧ Wl S' w m) nox := by
  obtain ⟨n, rfl⟩ : ∃ k, n = k + 1 := ⟨n - 1, by omega⟩
  obtain ⟨b, s, k, hc, hb, hs, hk, hkm⟩ := hw
  refine WC.run rfl (by ac_rfl) ?_
  unfold c__law_dip
  repeat infer_instance
  refine brD (fun hpos => ?_) (fun hpos => ?_)
  · repeat infer_instance
    exact ⟨Int.emod_nonneg _ (by omega), Int.emod_lt_of_pos _ (by omega), ⟨_, rfl, rfl⟩, _, _, _, .setS hc, Int.ediv_nonneg hb (by omega), hs, by omega, by omega⟩
  · repeat infer_instance
    exact ⟨Int.emod_nonneg _ (by omega), Int.emod_lt_of_pos _ (by omega), ⟨_, rfl, rfl⟩, _, _, _, .setS hc, hb, by omega, by omega, by omega⟩
variable [Has P "_law_pick" c__law_pick] [HasF P "_law_pick"]
theorem pick_w {menu : List D} (hn : 2 ≤ n) (hw : Wl S w (m + 1)) (h1 : 0 < menu.length) (h2 : menu.length ≤ 1000) :
    WC (callF P n) "_law_pick" [.own w, .lst menu] S (fun d S' => d ∈ menu ∧ Dr w S S' ∧ Wl S' w m) nox := by
  obtain ⟨n, rfl⟩ : ∃ k, n = k + 1 := ⟨n - 1, by omega⟩
  refine WC.run rfl (by ac_rfl) ?_
  unfold c__law_pick
  repeat infer_instance
  refine (dip_w (by omega) hw (by omega) (by omega)).mono ?_
  rintro _ S' ⟨r, rfl, h3, h4, h5, h6⟩
  have hk : r.toNat < menu.length := by omega
  refine WO.itemL (k := r.toNat) (by omega) (List.getElem?_eq_getElem hk) ?_
  repeat infer_instance
  exact ⟨List.getElem_mem hk, h5, h6⟩
variable [Has P "_law_terms" c__law_terms] [HasF P "_law_terms"]
def menuS : List Str := [nmS "class", nmS "use", nmS "a", nmS "full", nmS "abcdefgh", nmS "lamp", nmS "none"]
/-- the terms from b on, 1 + g apart -/
def termsS (b g : Int) (size : Nat) : List Str := (List.range size).map fun (k : Nat) => menuS.getD ((b + (1 + g) * (k : Int)) % 7).toNat ⟨#[]⟩
theorem terms_w {size : Nat} {i : Int} (hn : 2 ≤ n) (hi : i = (size : Int)) (hw : Wl S w (m + 2)) (h1 : 1 ≤ size) (h2 : size ≤ 100) :
    WC (callF P n) "_law_terms" [.own w, .int i] S (fun d S' => ∃ b g : Int, d = .lst ((termsS b g size).map .str) ∧ (0 ≤ b ∧ b < 7 ∧ 0 ≤ g ∧ g < 6) ∧ Dr w S S' ∧ Wl S' w m) nox := by
  obtain ⟨n, rfl⟩ : ∃ k, n = k + 1 := ⟨n - 1, by omega⟩
  subst hi
  refine WC.run rfl (by ac_rfl) ?_
  unfold c__law_terms
  repeat infer_instance
  refine (dip_w (m := m + 1) (by omega) hw (by omega) (by omega)).mono ?_
  rintro _ S1 ⟨b, rfl, b0, b1, d1, w1⟩
  repeat infer_instance
  refine (dip_w (by omega) w1 (by omega) (by omega)).mono ?_
  rintro _ S2 ⟨g, rfl, g0, g1, d2, w2⟩
  repeat infer_instance
  refine WL.map (h := fun (k : Nat) => .str (menuS.getD ((b + (1 + g) * (k : Int)) % 7).toNat ⟨#[]⟩)) (fun k hk => ?_) ?_ ?_
  · have hk := List.mem_range.mp hk
    repeat infer_instance
    have hlt : ((b + (1 + g) * (k : Int)) % 7).toNat < menuS.length := by show _ < 7; omega
    refine WO.itemL (k := ((b + (1 + g) * (k : Int)) % 7).toNat) (x := .str (menuS.getD ((b + (1 + g) * (k : Int)) % 7).toNat ⟨#[]⟩)) (by omega) ?_ ⟨rfl, rfl⟩
    show (menuS.map D.str)[_]? = _
    rw [List.getD_eq_getElem?_getD, List.getElem?_map, List.getElem?_eq_getElem hlt]
    rfl
  · rw [List.length_range]; exact LINE_m (by omega)
  · refine mk_f (by rw [List.length_map, List.length_range]; exact LINE_m (by omega)) ?_
    repeat infer_instance
    exact ⟨b, g, by rw [termsS, List.map_map]; rfl, ⟨b0, b1, g0, g1⟩, d1.trans d2, w2⟩
variable [Has P "_law_up" c__law_up] [HasF P "_law_up"]
theorem up_w {most : Int} (hn : 3 ≤ n) (hw : Wl S w (m + 3)) (h1 : 1 ≤ most) (h2 : most ≤ 10 ^ 30) :
    WC (callF P n) "_law_up" [.own w, .int most] S (fun d S' => ∃ v : Int, d = .int v ∧ 1 ≤ v ∧ v ≤ most ∧ Dr w S S' ∧ Wl S' w m) nox := by
  obtain ⟨n, rfl⟩ : ∃ k, n = k + 1 := ⟨n - 1, by omega⟩
  refine WC.run rfl (by ac_rfl) ?_
  unfold c__law_up
  repeat infer_instance
  refine brD (fun hm => ?_) (fun hm => ?_)
  · repeat infer_instance
    refine (dip_w (m := m + 2) (by omega) hw h1 (by omega)).mono ?_
    rintro _ S1 ⟨r, rfl, r0, r1, d1, w1⟩
    repeat infer_instance
    exact ⟨by omega, by omega, d1, w1.less (by omega)⟩
  · repeat infer_instance
    refine (pick_w (m := m + 2) (by omega) hw (by decide) (by decide)).mono ?_
    rintro x S1 ⟨hx, d1, w1⟩
    obtain ⟨y, rfl, hy0, hy⟩ : ∃ y : Int, x = .int y ∧ 0 ≤ y ∧ y ≤ 10 ^ 25 := by
      simp only [List.mem_cons, List.not_mem_nil, or_false] at hx
      rcases hx with h | h | h | h | h | h | h | h <;> exact ⟨_, h, by decide, by decide⟩
    repeat infer_instance
    refine (dip_w (m := m + 1) (by omega) w1 (by omega) (by omega)).mono ?_
    rintro _ S2 ⟨r, rfl, r0, r1, d2, w2⟩
    repeat infer_instance
    refine (dip_w (by omega) w2 (by omega) (by omega)).mono ?_
    rintro _ S3 ⟨q, rfl, q0, q1, d3, w3⟩
    repeat infer_instance
    have := Int.emod_nonneg (r * y + q) (by omega : most ≠ 0)
    have := Int.emod_lt_of_pos (r * y + q) (by omega : 0 < most)
    exact ⟨by omega, by omega, (d1.trans d2).trans d3, w3⟩
abbrev Row := Str × Int × Int
def rowD (r : Row) : D := .lst [.str r.1, .int r.2.1, .int r.2.2]
def rowU (r : Row) : D := .tup [.str r.1, .int r.2.1, .int r.2.2]
/-- drawn rows -/
structure Drawn (mk ma mb : Int) (rows : List Row) : Prop where
  len : 1 ≤ rows.length ∧ (rows.length : Int) ≤ mk
  names : ∀ r ∈ rows, r.1 ∈ menuS
  nd : (rows.map (·.1)).Nodup
  nums : ∀ r ∈ rows, 1 ≤ r.2.1 ∧ r.2.1 ≤ ma ∧ 1 ≤ r.2.2 ∧ r.2.2 ≤ mb
theorem terms_all : ((List.range 7).all fun b => (List.range 6).all fun g => (List.range 7).all fun s => decide (termsS (b : Nat) (g : Nat) s).Nodup && (termsS (b : Nat) (g : Nat) s).all fun t => menuS.contains t) = true := by decide +kernel
theorem terms_ok {b g : Int} {s : Nat} (h : 0 ≤ b ∧ b < 7 ∧ 0 ≤ g ∧ g < 6) (hs : s ≤ 6) : (termsS b g s).Nodup ∧ ∀ t ∈ termsS b g s, t ∈ menuS := by
  have h1 := List.all_eq_true.mp terms_all b.toNat (List.mem_range.mpr (by omega))
  have h2 := List.all_eq_true.mp h1 g.toNat (List.mem_range.mpr (by omega))
  have h3 := List.all_eq_true.mp h2 s (List.mem_range.mpr (by omega))
  rw [Bool.and_eq_true, decide_eq_true_eq, List.all_eq_true, show ((b.toNat : Nat) : Int) = b by omega, show ((g.toNat : Nat) : Int) = g by omega] at h3
  exact ⟨h3.1, fun t ht => List.contains_iff_mem.mp (h3.2 t ht)⟩
theorem rows_w {F : FnC} (hF : F = c__law_stock) {f : String} [Has P f F] {mk ma mb : Int} (hn : 4 ≤ n) (hw : Wl S w (m + 100)) (h0 : 1 ≤ mk) (h0' : mk ≤ 6) (h1 : 1 ≤ ma) (h2 : ma ≤ 10 ^ 30) (h3 : 1 ≤ mb) (h4 : mb ≤ 10 ^ 30) :
    WC (callF P n) f [.own w, .int mk, .int ma, .int mb] S (fun d S' => ∃ rows, d = .lst (rows.map rowD) ∧ Drawn mk ma mb rows ∧ Dr w S S' ∧ Wl S' w m) nox := by
  obtain ⟨n, rfl⟩ : ∃ k, n = k + 1 := ⟨n - 1, by omega⟩
  subst hF
  refine WC.run rfl (by ac_rfl) ?_
  unfold c__law_stock
  repeat infer_instance
  refine (dip_w (m := m + 90) (by omega) (hw.less (by omega)) (by omega) (by omega)).mono ?_
  rintro _ S1 ⟨r, rfl, r0, r1, d1, w1⟩
  repeat infer_instance
  obtain ⟨k, rfl⟩ := Int.eq_ofNat_of_zero_le r0
  refine (terms_w (size := k + 1) (m := m + 88) (by omega) (by omega) w1 (by omega) (by omega)).mono ?_
  rintro _ S2 ⟨b, g, rfl, hbg, d2, w2⟩
  obtain ⟨tn, tm⟩ := terms_ok hbg (s := k + 1) (by omega)
  have tl : (termsS b g (k + 1)).length = k + 1 := by simp [termsS]
  repeat infer_instance
  refine WL.inv (fun dn rs acc st => ∃ rows : List Row, acc = rows.map rowD ∧ rows.map (·.1) = dn ∧ (∀ r ∈ rows, 1 ≤ r.2.1 ∧ r.2.1 ≤ ma ∧ 1 ≤ r.2.2 ∧ r.2.2 ≤ mb) ∧ Dr w S st ∧ Wl st w (m + 6 * rs.length)) ?_ (fun _ _ _ _ _ => rfl) ?_ ?_
  · exact ⟨[], rfl, rfl, fun _ h => (nomatch h), d1.trans d2, w2.less (by omega)⟩
  · rintro dn x rs acc st e ⟨rows, rfl, hm, hb, d, ww⟩
    have hl := congrArg List.length e
    have hl2 := congrArg List.length hm
    simp only [List.length_append, List.length_cons, List.length_map] at hl hl2 ww
    refine ⟨by rw [List.length_map]; exact LINE_ml (by omega), ?_⟩
    repeat infer_instance
    refine WIf.nil ⟨fun z => (nomatch z), fun _ => ?_⟩
    repeat infer_instance
    refine (up_w (m := m + 6 * rs.length + 3) (by omega) (ww.less (by omega)) h1 h2).mono ?_
    rintro _ S3 ⟨u, rfl, u1, u2, d3, w3⟩
    repeat infer_instance
    refine (up_w (by omega) w3 h3 h4).mono ?_
    rintro _ S4 ⟨v, rfl, v1, v2, d4, w4⟩
    repeat infer_instance
    refine ⟨rows ++ [(x, u, v)], by simp [rowD], by simp [hm], fun y hy => ?_, (d.trans d3).trans d4, w4⟩
    rcases List.mem_append.mp hy with hy | hy
    · exact hb y hy
    · rw [List.mem_singleton.mp hy]; exact ⟨u1, u2, v1, v2⟩
  · rintro acc st ⟨rows, rfl, hm, hb, d, ww⟩
    have hl := congrArg List.length hm
    rw [List.length_map] at hl
    refine mk_f (by rw [List.length_map]; exact LINE_m (by omega)) ?_
    repeat infer_instance
    refine ⟨rows, rfl, ⟨⟨by omega, by omega⟩, fun r hr => tm _ (hm ▸ List.mem_map_of_mem hr), hm ▸ tn, hb⟩, d, ww.less (by omega)⟩
end
end MP
end

section
set_option linter.all false
set_option autoImplicit false
set_option maxRecDepth 4000
set_option maxHeartbeats 1000000
open PySem MP MP.C L2 PyProof.Rows TL
local macro_rules | `(tactic| decreasing_trivial_pre_omega) => `(tactic| first | with_reducible assumption | exact bigOk_of (by omega) | omega)
local macro_rules | `(tactic| ac_rfl) => `(tactic| (repeat (first | with_reducible exact GetAt.z | with_reducible apply GetAt.s | with_reducible exact SetAt.z | with_reducible apply SetAt.s | with_reducible exact WipeAt.n | with_reducible apply WipeAt.c | with_reducible exact SetM.n | with_reducible apply SetM.c | with_reducible exact StartAt.z | apply StartAt.a | apply StartAt.p | with_reducible assumption | ((with_reducible apply CellAt.last); (focus ((repeat (first | with_reducible apply LenAt.snoc | with_reducible exact LenAt.base)); done))) | with_reducible apply CellAt.skip | with_reducible apply CellAt.setS | with_reducible apply LenAt.snoc | with_reducible exact LenAt.base | ((with_reducible apply CellSet.last); (focus ((repeat (first | with_reducible apply LenAt.snoc | with_reducible exact LenAt.base)); done))) | with_reducible apply CellSet.skip | with_reducible apply CellSet.setS | with_reducible apply CellSet.base | with_reducible exact LSet.z | with_reducible apply LSet.s)))
local macro_rules | `(tactic| infer_instance) => `(tactic| (first
  | with_reducible apply WSs.cons | with_reducible apply WSs.nil | with_reducible apply WS.set | with_reducible apply WS.ret | with_reducible apply WS.ifS | with_reducible apply WS.expr | with_reducible apply WS.par | with_reducible apply WS.setItem | with_reducible apply WS.setAttr | with_reducible apply WS.retN | with_reducible apply WS.pass | with_reducible apply WS.brk | with_reducible apply WS.cont | with_reducible apply WS.raise | with_reducible apply WS.forS
  | ((with_reducible apply WS.aug); (focus (ac_rfl; done)))
  | ((with_reducible apply WE.var); (focus (ac_rfl; done)))
  | with_reducible apply WE.cst | with_reducible apply WE.bin | with_reducible apply WE.item | with_reducible apply WE.cmp | with_reducible apply WEs.cons | with_reducible apply WEs.nil | with_reducible apply WE.prim
  | ((with_reducible apply WE.call); (focus (first | exact HasF.gl | assumption | rfl | decide)))
  | with_reducible apply WE.andT | with_reducible apply WE.orT | with_reducible apply WE.notT | ((with_reducible apply WE.t); (focus (exact rfl))) | with_reducible apply WE.rng | with_reducible apply WE.enu | with_reducible apply WE.zip | ((with_reducible apply WE.i); (focus (exact rfl)))
  | with_reducible apply WE.andV | with_reducible apply WE.orV | with_reducible apply WE.notV | with_reducible apply WE.ite | with_reducible apply WE.chain | with_reducible apply WE.neg
  | ((with_reducible apply WE.gc); (focus (first | exact HasG.gl | assumption | rfl)))
  | with_reducible apply WE.tup | with_reducible apply WE.lstF | with_reducible apply WE.lstT | with_reducible apply WE.slNS | with_reducible apply WE.slSN | with_reducible apply WE.slSS | with_reducible apply WE.slNN | with_reducible apply WE.meth | ((with_reducible apply WE.callK); (focus (exact rfl))) | ((with_reducible apply WE.new); (focus (first | exact rfl | (rw [HasC.cl]; exact rfl)))) | ((with_reducible apply WE.newK); (focus (first | exact rfl | (rw [HasC.cl]; exact rfl))); (focus (first | exact HasK.kw | exact rfl))) | with_reducible apply WE.ometh | with_reducible apply WE.attr | ((with_reducible apply WE.isi); (focus (first | exact rfl | (simp [tyOk, HasC.cl]; done))))
  | with_reducible apply WE.fmt | with_reducible apply WE.fstr | with_reducible apply WFs.nil | with_reducible apply WFs.cons | with_reducible apply WE.frz | ((with_reducible apply WE.dct0); (focus (ac_rfl; done))) | with_reducible apply WE.oeq | with_reducible apply WE.ostr | with_reducible apply WE.orepr | with_reducible apply WE.obool
  | ((with_reducible apply WE.lc); (focus (ac_rfl; done)))
  | ((with_reducible apply WB.var); (focus (ac_rfl; done)))
  | ((with_reducible apply WB.tup); (focus (exact rfl))) | with_reducible apply WBs.cons | with_reducible apply WBs.nil
  | with_reducible apply exBl | with_reducible apply exInt | with_reducible apply exStr
  | with_reducible refine ⟨_, by (ac_rfl; done), ?_⟩
  | ((with_reducible apply lenLit); (focus (exact rfl)))
  | ((with_reducible apply WO.mul); (focus (decreasing_trivial_pre_omega; done)); (focus (decreasing_trivial_pre_omega; done)))
  | ((with_reducible apply WO.fdiv); (focus (decreasing_trivial_pre_omega; done)); (focus (decreasing_trivial_pre_omega; done)))
  | ((with_reducible apply WO.mod); (focus (decreasing_trivial_pre_omega; done)))
  | ((with_reducible apply WO.p10); (focus (exact rfl))) | ((with_reducible apply WO.storeAttr); (focus (ac_rfl; done)); (focus (exact HasC.cl)); (focus (exact rfl)); (focus (ac_rfl; done)))
  | ((with_reducible apply WA.fld); (focus (exact HasC.cl)); (focus (exact rfl)); (focus (exact rfl)); (focus (exact rfl))) | ((with_reducible apply WA.prop); (focus (exact HasC.cl)); (focus (exact rfl)))
  | with_reducible apply WO.eqI | with_reducible apply WO.neI | with_reducible apply WO.eqS | with_reducible apply WO.neS | with_reducible apply WO.min2 | with_reducible apply WO.max2 | with_reducible apply WO.abs1 | with_reducible apply WO.lenM | with_reducible apply WO.lenTM
  | with_reducible apply WO.sumL | with_reducible apply WO.allL | with_reducible apply WO.anyL | ((with_reducible apply WO.rngN); (focus (omega))) | ((with_reducible apply WO.rngL); (focus (omega)))
  | ((with_reducible apply WO.itemOL); (focus (ac_rfl; done)); (focus (exact rfl)))
  | ((with_reducible apply WO.storeLL); (focus (ac_rfl; done)); (focus (ac_rfl; done)); (focus (ac_rfl; done)))
  | ((with_reducible apply WO.itemD); (focus (ac_rfl; done)); (focus (exact rfl)); (focus (with_reducible assumption))) | ((with_reducible apply WO.inD); (focus (ac_rfl; done)); (focus (exact rfl))) | ((with_reducible apply WO.notinD); (focus (ac_rfl; done)); (focus (exact rfl)))
  | with_reducible apply WO.slM | with_reducible apply WO.slTM
  | with_reducible apply WO.itemC | with_reducible apply WO.itemTC
  | ((fail_if_success (with_reducible apply WO.gMul)); (fail_if_success (with_reducible apply WO.gDiv)); (with_reducible apply WO.mk'); (focus (first | with_reducible assumption | exact rfl)))
  | ((with_reducible apply WO.addS); (focus (first | with_reducible assumption | exact LINE_m (by (try simp only [len_app']); omega))))
  | ((with_reducible apply recvS); (focus (exact rfl))) | ((with_reducible apply recvL); (focus (exact rfl))) | ((with_reducible apply recvO); (focus (ac_rfl; done)); (focus (exact rfl))) | ((with_reducible apply clsK); (focus (first | with_reducible assumption | exact rfl)))
  | ((with_reducible apply appK); (focus (ac_rfl; done)); (focus (first | with_reducible assumption | exact LINE_ml (by (try simp only [List.length_map, List.length_append, List.length_cons, List.length_nil]); omega))); (focus (ac_rfl; done)))
  | ((with_reducible apply WO.storeD); (focus (ac_rfl; done)); (focus (exact rfl)); (focus (first | with_reducible assumption | exact LINE_ml (by (try simp only [List.length_map, List.length_append, List.length_cons, List.length_nil]); omega))); (focus (ac_rfl; done)))
  | ((with_reducible apply brP); (focus (first | with_reducible assumption | exact rfl))) | ((with_reducible apply brN); (focus (first | with_reducible assumption | exact rfl))) | ((with_reducible apply brP'); (focus (first | with_reducible assumption | exact rfl))) | ((with_reducible apply brN'); (focus (first | with_reducible assumption | exact rfl)))
  | ((with_reducible apply WO.lenOM); (focus (ac_rfl; done))) | ((with_reducible apply WO.lenO); (focus (ac_rfl; done))) | ((with_reducible apply WO.tupO); (focus (ac_rfl; done))) | ((with_reducible apply WO.iterO); (focus (ac_rfl; done))) | ((with_reducible apply WZ.lst); (focus (ac_rfl; done)); (focus (ac_rfl; done)))
  | ((with_reducible apply WT.same); (focus ((repeat (first | with_reducible exact LenIs.base | with_reducible apply LenIs.set | ((with_reducible apply LenIs.dr); (focus (with_reducible assumption))))); done)))
  | ((with_reducible apply WT.pre); (focus ((repeat (first | with_reducible apply Pre.snoc | with_reducible exact Pre.refl)); done)); (focus ((repeat (first | with_reducible exact LenIs.base | with_reducible apply LenIs.set | ((with_reducible apply LenIs.dr); (focus (with_reducible assumption))))); done)); (focus (first | with_reducible assumption | exact rfl | exact plain_tup (fun _ => rfl) | exact plain_lst (fun _ => rfl))); (focus (first | with_reducible assumption | exact Dr.stay (by with_reducible assumption) (by with_reducible assumption))))
  | ((with_reducible apply WT.len); (focus ((simp only [List.length_append, List.length_set, List.length_cons, List.length_nil]); done)))
  | ((with_reducible apply WL.map); (focus (intro _ hx; (try have hx' := List.mem_range.mp hx); (repeat infer_instance); (with_reducible exact mapRR))); (focus (first | with_reducible assumption | exact LINE_m (by (try simp only [List.length_map, List.length_append, List.length_cons, List.length_nil, List.length_range]); omega))); ((with_reducible apply mk_f); (focus (first | with_reducible assumption | exact LINE_m (by (try simp only [List.length_map, List.length_append, List.length_cons, List.length_nil, List.length_range]); omega)))))))
namespace MP
abbrev sp : Str := nmS " "
abbrev nlS : Str := nmS "\n"
def numT (i : Int) : Str := Str.ofString (toString i)
def rowT (w : Str) (r : Row) : Str := w ++ sp ++ r.1 ++ sp ++ numT r.2.1 ++ sp ++ numT r.2.2
def sheetT (w : Str) (rows : List Row) : Str := Txt.join nlS (rows.map (rowT w))
def nameOk (x : Str) : Bool := decide (1 ≤ x.length) && decide (x.length ≤ 8) && (tl x).all fun c => decide (97 ≤ c) && decide (c ≤ 122)
structure Good (r : Row) : Prop where
  name : nameOk r.1 = true
  a : 1 ≤ r.2.1
  a' : r.2.1 ≤ 10 ^ 40
  b : 1 ≤ r.2.2
  b' : r.2.2 ≤ 10 ^ 40
theorem tl_sp : tl sp = [32] := by decide
theorem tl_nl : tl nlS = [10] := by decide
theorem tl_numT {i : Int} (h : 0 ≤ i) : tl (numT i) = numL i.toNat := by
  obtain ⟨n, rfl⟩ := Int.eq_ofNat_of_zero_le h
  exact tl_num n
theorem numT_len {i : Int} (h : 0 ≤ i) (h' : i ≤ 10 ^ 40) : (numT i).length ≤ 41 := by
  rw [len_tl, tl_numT h]
  exact numL_len (by decide) (by omega)
theorem numT_free {i : Int} (h : 0 ≤ i) {s : Nat} (hs : s < 48 ∨ 57 < s) : s ∉ tl (numT i) := by
  rw [tl_numT h]; exact numL_free hs
theorem name_free {x : Str} (h : nameOk x = true) {s : Nat} (hs : s < 97) : s ∉ tl x := fun hm => by
  rw [nameOk, Bool.and_eq_true, List.all_eq_true] at h
  have := h.2 s hm
  simp at this
  omega
theorem name_len {x : Str} (h : nameOk x = true) : 1 ≤ x.length ∧ x.length ≤ 8 := by
  simp only [nameOk, Bool.and_eq_true, decide_eq_true_eq] at h
  exact h.1
theorem rowT_join (w : Str) (r : Row) : rowT w r = Txt.join sp [w, r.1, numT r.2.1, numT r.2.2] := by
  refine ext_tl ?_
  rw [join_eq, tl_join]
  simp only [rowT, tl_append, List.map_cons, List.map_nil, joinL, List.append_assoc]
theorem len_app (a b : Str) : (a ++ b).length = a.length + b.length := by rw [len_tl, len_tl, len_tl, tl_append, List.length_append]
theorem sp_len : sp.length = 1 := by decide
section
variable {w : Str}
theorem rowT_len (hw : nameOk w = true) {r : Row} (h : Good r) : (rowT w r).length ≤ 101 := by
  have h0 := name_len hw
  have h1 := name_len h.name
  have h2 := numT_len (i := r.2.1) (by have := h.a; omega) (by have := h.a'; omega)
  have h3 := numT_len (i := r.2.2) (by have := h.b; omega) h.b'
  simp only [rowT, len_app, sp_len]
  omega
theorem split_row (hw : nameOk w = true) {r : Row} (h : Good r) : Txt.split (rowT w r) sp = [w, r.1, numT r.2.1, numT r.2.2] := by
  rw [rowT_join]
  refine split_join (s := 32) (S := []) tl_sp (by decide +kernel) (by simp) fun p hp => ?_
  simp only [List.mem_cons, List.not_mem_nil, or_false] at hp
  rcases hp with rfl | rfl | rfl | rfl
  · exact name_free hw (by decide)
  · exact name_free h.name (by decide)
  · exact numT_free (by have := h.a; omega) (by decide)
  · exact numT_free (by have := h.b; omega) (by decide)
theorem row_free (hw : nameOk w = true) {r : Row} (h : Good r) : 10 ∉ tl (rowT w r) := by
  simp only [rowT, tl_append, List.mem_append, tl_sp, not_or]
  refine ⟨⟨⟨⟨⟨⟨name_free hw (by decide), by decide⟩, name_free h.name (by decide)⟩, by decide⟩, numT_free (by have := h.a; omega) (by decide)⟩, by decide⟩, numT_free (by have := h.b; omega) (by decide)⟩
theorem split_sheet (hw : nameOk w = true) {rows : List Row} (hn : rows ≠ []) (h : ∀ r ∈ rows, Good r) : Txt.split (sheetT w rows) nlS = rows.map (rowT w) := by
  refine split_join (s := 10) (S := []) tl_nl (by decide +kernel) (by simpa using hn) fun p hp => ?_
  obtain ⟨r, hr, rfl⟩ := List.mem_map.mp hp
  exact row_free hw (h r hr)
theorem sum_le (hw : nameOk w = true) : ∀ {rows : List Row}, (∀ r ∈ rows, Good r) → ((rows.map (rowT w)).map (·.length)).sum ≤ 101 * rows.length
  | [], _ => by simp
  | r :: rows, h => by
    have h1 := rowT_len hw (h r List.mem_cons_self)
    have h2 := sum_le hw fun x hx => h x (List.mem_cons_of_mem _ hx)
    simp only [List.map_cons, List.sum_cons, List.length_cons]
    omega
end
theorem log_ok {i : Int} (h : i.natAbs < 2 ^ 1000) : i.natAbs.log2 < 1920 := by
  by_cases hz : i.natAbs = 0
  · rw [hz]; decide
  · exact (Nat.log2_lt hz).mpr (Nat.lt_trans h (by decide +kernel))
theorem prim_strI {i : Int} {st : Store} (h : i.natAbs < 2 ^ 1000) : primF .str [.int i] st = some (.str (numT i)) := by
  show (if i.natAbs.log2 < 1920 then some (D.str (toString i)) else none) = _
  rw [if_pos (log_ok h)]; rfl
theorem letters_all : ∀ c : Nat, 97 ≤ c → c ≤ 122 → c ∈ (nmS "abcdefghijklmnopqrstuvwxyz").cps.toList := by
  intro c h1 h2
  have : ∀ k : Fin 26, k.val + 97 ∈ (nmS "abcdefghijklmnopqrstuvwxyz").cps.toList := by decide +kernel
  have := this ⟨c - 97, by omega⟩
  rwa [show c - 97 + 97 = c by omega] at this
theorem figures_all : ∀ c : Nat, 48 ≤ c → c ≤ 57 → c ∈ (nmS "0123456789").cps.toList := by
  intro c h1 h2
  have : ∀ k : Fin 10, k.val + 48 ∈ (nmS "0123456789").cps.toList := by decide +kernel
  have := this ⟨c - 48, by omega⟩
  rwa [show c - 48 + 48 = c by omega] at this
theorem numL_head {n : Nat} (h : 0 < n) : (numL n)[0]? ≠ some 48 := by
  induction n using Nat.strongRecOn with
  | _ n ih =>
    by_cases hn : n < 10
    · rw [numL_lt hn]; simp; omega
    · rw [numL_step (by omega), List.getElem?_append_left (List.length_pos_iff.mpr (numL_ne _))]
      exact ih (n / 10) (by omega) (by omega)
def Asc (x : Str) : Prop := ∀ c ∈ tl x, c < 128
theorem strOk_of {x : Str} (h : Asc x) : PyData.strOk x = true := by
  unfold PyData.strOk
  rw [Array.all_eq_true']
  intro c hc
  have := h c (by simpa [tl] using hc)
  simp; omega
theorem Asc.app {a b : Str} (ha : Asc a) (hb : Asc b) : Asc (a ++ b) := fun c hc => by
  rw [tl_append, List.mem_append] at hc
  exact hc.elim (ha c) (hb c)
theorem asc_num {i : Int} (h : 0 ≤ i) : Asc (numT i) := fun c hc => by
  rw [tl_numT h] at hc
  have := numL_digits _ c hc
  omega
theorem asc_name {x : Str} (h : nameOk x = true) : Asc x := fun c hc => by
  rw [nameOk, Bool.and_eq_true, List.all_eq_true] at h
  have := h.2 c hc
  simp at this
  omega
theorem asc_joinL {S : List Nat} (hS : ∀ c ∈ S, c < 128) : ∀ {ps : List (List Nat)}, (∀ p ∈ ps, ∀ c ∈ p, c < 128) → ∀ c ∈ joinL S ps, c < 128
  | [], _, c, hc => by simp [joinL] at hc
  | [p], h, c, hc => h p (by simp) c (by simpa [joinL] using hc)
  | p :: q :: r, h, c, hc => by
    rw [joinL, List.mem_append, List.mem_append] at hc
    rcases hc with hc | hc | hc
    · exact h p (by simp) c hc
    · exact hS c hc
    · exact asc_joinL hS (fun p hp => h p (List.mem_cons_of_mem _ hp)) c hc
theorem asc_sp : Asc sp := by unfold Asc; decide
theorem asc_row {w : Str} (hw : nameOk w = true) {r : Row} (h : Good r) : Asc (rowT w r) :=
  ((((((asc_name hw).app asc_sp).app (asc_name h.name)).app asc_sp).app (asc_num (by have := h.a; omega))).app asc_sp).app (asc_num (by have := h.b; omega))
theorem asc_sheet {w : Str} (hw : nameOk w = true) {rows : List Row} (h : ∀ r ∈ rows, Good r) : Asc (sheetT w rows) := fun c hc => by
  rw [sheetT, join_eq, tl_join] at hc
  refine asc_joinL (by decide) (fun p hp => ?_) c hc
  obtain ⟨x, hx, rfl⟩ := List.mem_map.mp hp
  obtain ⟨r, hr, rfl⟩ := List.mem_map.mp hx
  exact asc_row hw (h r hr)
theorem joinL_len (S : List Nat) : ∀ ps : List (List Nat), (joinL S ps).length ≤ (ps.map (·.length)).sum + ps.length * S.length
  | [] => by simp [joinL]
  | [p] => by simp [joinL]
  | p :: q :: r => by
    have := joinL_len S (q :: r)
    simp only [joinL, List.length_append, List.map_cons, List.sum_cons, List.length_cons, Nat.add_mul, Nat.one_mul] at this ⊢
    omega
theorem sheet_len {w : Str} (hw : nameOk w = true) {rows : List Row} (h : ∀ r ∈ rows, Good r) : (sheetT w rows).length ≤ 102 * rows.length := by
  have h1 := sum_le hw h
  have h2 := joinL_len (tl nlS) ((rows.map (rowT w)).map tl)
  rw [len_tl, sheetT, join_eq, tl_join, tl_nl]
  have h3 : ((rows.map (rowT w)).map tl).map (·.length) = (rows.map (rowT w)).map (·.length) := by
    rw [List.map_map]
    exact List.map_congr_left fun x _ => (len_tl x).symm
  rw [h3, List.length_map, List.length_map, tl_nl] at h2
  simp only [List.length_singleton] at h2
  omega
theorem numT_inj {i j : Int} (hi : 0 ≤ i) (hj : 0 ≤ j) (e : numT i = numT j) : i = j := by
  have := congrArg tl e
  rw [tl_numT hi, tl_numT hj] at this
  have := numL_inj this
  omega
theorem rowT_inj {w : Str} (hw : nameOk w = true) {a b : Row} (ha : Good a) (hb : Good b) (e : rowT w a = rowT w b) : a = b := by
  have e1 := split_row hw ha
  rw [e, split_row hw hb] at e1
  simp only [List.cons.injEq, and_true, true_and] at e1
  obtain ⟨e2, e3, e4⟩ := e1
  have h3 := numT_inj (by have := hb.a; omega) (by have := ha.a; omega) e3
  have h4 := numT_inj (by have := hb.b; omega) (by have := ha.b; omega) e4
  obtain ⟨n, u, v⟩ := a
  obtain ⟨n', u', v'⟩ := b
  simp only at e2 h3 h4
  rw [e2, h3, h4]
theorem map_inj_on {w : Str} (hw : nameOk w = true) : ∀ {a b : List Row}, (∀ r ∈ a, Good r) → (∀ r ∈ b, Good r) → a.map (rowT w) = b.map (rowT w) → a = b
  | [], [], _, _, _ => rfl
  | [], _ :: _, _, _, e => by simp at e
  | _ :: _, [], _, _, e => by simp at e
  | x :: a, y :: b, ha, hb, e => by
    rw [List.map_cons, List.map_cons, List.cons.injEq] at e
    rw [rowT_inj hw (ha x List.mem_cons_self) (hb y List.mem_cons_self) e.1, map_inj_on hw (fun r h => ha r (List.mem_cons_of_mem _ h)) (fun r h => hb r (List.mem_cons_of_mem _ h)) e.2]
theorem sheet_inj {w : Str} (hw : nameOk w = true) {a b : List Row} (na : a ≠ []) (nb : b ≠ []) (ha : ∀ r ∈ a, Good r) (hb : ∀ r ∈ b, Good r) (e : sheetT w a = sheetT w b) : a = b := by
  have := split_sheet hw na ha
  rw [e, split_sheet hw nb hb] at this
  exact (map_inj_on hw hb ha this).symm
end MP
end

section
set_option linter.all false
set_option autoImplicit false
set_option maxRecDepth 4000
set_option maxHeartbeats 1000000
open PySem MP MP.C L2 PyProof.Rows TL
local macro_rules | `(tactic| decreasing_trivial_pre_omega) => `(tactic| first | with_reducible assumption | exact bigOk_of (by omega) | omega)
local macro_rules | `(tactic| ac_rfl) => `(tactic| (repeat (first | with_reducible exact GetAt.z | with_reducible apply GetAt.s | with_reducible exact SetAt.z | with_reducible apply SetAt.s | with_reducible exact WipeAt.n | with_reducible apply WipeAt.c | with_reducible exact SetM.n | with_reducible apply SetM.c | with_reducible exact StartAt.z | apply StartAt.a | apply StartAt.p | with_reducible assumption | ((with_reducible apply CellAt.last); (focus ((repeat (first | with_reducible apply LenAt.snoc | with_reducible exact LenAt.base)); done))) | with_reducible apply CellAt.skip | with_reducible apply CellAt.setS | with_reducible apply LenAt.snoc | with_reducible exact LenAt.base | ((with_reducible apply CellSet.last); (focus ((repeat (first | with_reducible apply LenAt.snoc | with_reducible exact LenAt.base)); done))) | with_reducible apply CellSet.skip | with_reducible apply CellSet.setS | with_reducible apply CellSet.base | with_reducible exact LSet.z | with_reducible apply LSet.s)))
local macro_rules | `(tactic| infer_instance) => `(tactic| (first
  | with_reducible apply WSs.cons | with_reducible apply WSs.nil | with_reducible apply WS.set | with_reducible apply WS.ret | with_reducible apply WS.ifS | with_reducible apply WS.expr | with_reducible apply WS.par | with_reducible apply WS.setItem | with_reducible apply WS.setAttr | with_reducible apply WS.retN | with_reducible apply WS.pass | with_reducible apply WS.brk | with_reducible apply WS.cont | with_reducible apply WS.raise | with_reducible apply WS.forS
  | ((with_reducible apply WS.aug); (focus (ac_rfl; done)))
  | ((with_reducible apply WE.var); (focus (ac_rfl; done)))
  | with_reducible apply WE.cst | with_reducible apply WE.bin | with_reducible apply WE.item | with_reducible apply WE.cmp | with_reducible apply WEs.cons | with_reducible apply WEs.nil | with_reducible apply WE.prim
  | ((with_reducible apply WE.call); (focus (first | exact HasF.gl | assumption | rfl | decide)))
  | with_reducible apply WE.andT | with_reducible apply WE.orT | with_reducible apply WE.notT | ((with_reducible apply WE.t); (focus (exact rfl))) | with_reducible apply WE.rng | with_reducible apply WE.enu | with_reducible apply WE.zip | ((with_reducible apply WE.i); (focus (exact rfl)))
  | with_reducible apply WE.andV | with_reducible apply WE.orV | with_reducible apply WE.notV | with_reducible apply WE.ite | with_reducible apply WE.chain | with_reducible apply WE.neg
  | ((with_reducible apply WE.gc); (focus (first | exact HasG.gl | assumption | rfl)))
  | with_reducible apply WE.tup | with_reducible apply WE.lstF | with_reducible apply WE.lstT | with_reducible apply WE.slNS | with_reducible apply WE.slSN | with_reducible apply WE.slSS | with_reducible apply WE.slNN | with_reducible apply WE.meth | ((with_reducible apply WE.callK); (focus (exact rfl))) | ((with_reducible apply WE.new); (focus (first | exact rfl | (rw [HasC.cl]; exact rfl)))) | ((with_reducible apply WE.newK); (focus (first | exact rfl | (rw [HasC.cl]; exact rfl))); (focus (first | exact HasK.kw | exact rfl))) | with_reducible apply WE.ometh | with_reducible apply WE.attr | ((with_reducible apply WE.isi); (focus (first | exact rfl | (simp [tyOk, HasC.cl]; done))))
  | with_reducible apply WE.fmt | with_reducible apply WE.fstr | with_reducible apply WFs.nil | with_reducible apply WFs.cons | with_reducible apply WE.frz | ((with_reducible apply WE.dct0); (focus (ac_rfl; done))) | with_reducible apply WE.oeq | with_reducible apply WE.ostr | with_reducible apply WE.orepr | with_reducible apply WE.obool
  | ((with_reducible apply WE.lc); (focus (ac_rfl; done)))
  | ((with_reducible apply WB.var); (focus (ac_rfl; done)))
  | ((with_reducible apply WB.tup); (focus (exact rfl))) | with_reducible apply WBs.cons | with_reducible apply WBs.nil
  | with_reducible apply exBl | with_reducible apply exInt | with_reducible apply exStr
  | with_reducible refine ⟨_, by (ac_rfl; done), ?_⟩
  | ((with_reducible apply lenLit); (focus (exact rfl)))
  | ((with_reducible apply WO.mul); (focus (decreasing_trivial_pre_omega; done)); (focus (decreasing_trivial_pre_omega; done)))
  | ((with_reducible apply WO.fdiv); (focus (decreasing_trivial_pre_omega; done)); (focus (decreasing_trivial_pre_omega; done)))
  | ((with_reducible apply WO.mod); (focus (decreasing_trivial_pre_omega; done)))
  | ((with_reducible apply WO.p10); (focus (exact rfl))) | ((with_reducible apply WO.storeAttr); (focus (ac_rfl; done)); (focus (exact HasC.cl)); (focus (exact rfl)); (focus (ac_rfl; done)))
  | ((with_reducible apply WA.fld); (focus (exact HasC.cl)); (focus (exact rfl)); (focus (exact rfl)); (focus (exact rfl))) | ((with_reducible apply WA.prop); (focus (exact HasC.cl)); (focus (exact rfl)))
  | with_reducible apply WO.eqI | with_reducible apply WO.neI | with_reducible apply WO.eqS | with_reducible apply WO.neS | with_reducible apply WO.min2 | with_reducible apply WO.max2 | with_reducible apply WO.abs1 | with_reducible apply WO.lenM | with_reducible apply WO.lenTM
  | with_reducible apply WO.sumL | with_reducible apply WO.allL | with_reducible apply WO.anyL | ((with_reducible apply WO.rngN); (focus (omega))) | ((with_reducible apply WO.rngL); (focus (omega)))
  | ((with_reducible apply WO.itemOL); (focus (ac_rfl; done)); (focus (exact rfl)))
  | ((with_reducible apply WO.storeLL); (focus (ac_rfl; done)); (focus (ac_rfl; done)); (focus (ac_rfl; done)))
  | ((with_reducible apply WO.itemD); (focus (ac_rfl; done)); (focus (exact rfl)); (focus (with_reducible assumption))) | ((with_reducible apply WO.inD); (focus (ac_rfl; done)); (focus (exact rfl))) | ((with_reducible apply WO.notinD); (focus (ac_rfl; done)); (focus (exact rfl)))
  | with_reducible apply WO.slM | with_reducible apply WO.slTM
  | with_reducible apply WO.itemC | with_reducible apply WO.itemTC
  | ((fail_if_success (with_reducible apply WO.gMul)); (fail_if_success (with_reducible apply WO.gDiv)); (with_reducible apply WO.mk'); (focus (first | with_reducible assumption | exact rfl)))
  | ((with_reducible apply WO.addS); (focus (first | with_reducible assumption | exact LINE_m (by (try simp only [len_app']); omega))))
  | ((with_reducible apply recvS); (focus (exact rfl))) | ((with_reducible apply recvL); (focus (exact rfl))) | ((with_reducible apply recvO); (focus (ac_rfl; done)); (focus (exact rfl))) | ((with_reducible apply clsK); (focus (first | with_reducible assumption | exact rfl)))
  | ((with_reducible apply appK); (focus (ac_rfl; done)); (focus (first | with_reducible assumption | exact LINE_ml (by (try simp only [List.length_map, List.length_append, List.length_cons, List.length_nil]); omega))); (focus (ac_rfl; done)))
  | ((with_reducible apply WO.storeD); (focus (ac_rfl; done)); (focus (exact rfl)); (focus (first | with_reducible assumption | exact LINE_ml (by (try simp only [List.length_map, List.length_append, List.length_cons, List.length_nil]); omega))); (focus (ac_rfl; done)))
  | ((with_reducible apply brP); (focus (first | with_reducible assumption | exact rfl))) | ((with_reducible apply brN); (focus (first | with_reducible assumption | exact rfl))) | ((with_reducible apply brP'); (focus (first | with_reducible assumption | exact rfl))) | ((with_reducible apply brN'); (focus (first | with_reducible assumption | exact rfl)))
  | ((with_reducible apply WO.lenOM); (focus (ac_rfl; done))) | ((with_reducible apply WO.lenO); (focus (ac_rfl; done))) | ((with_reducible apply WO.tupO); (focus (ac_rfl; done))) | ((with_reducible apply WO.iterO); (focus (ac_rfl; done))) | ((with_reducible apply WZ.lst); (focus (ac_rfl; done)); (focus (ac_rfl; done)))
  | ((with_reducible apply WT.same); (focus ((repeat (first | with_reducible exact LenIs.base | with_reducible apply LenIs.set | ((with_reducible apply LenIs.dr); (focus (with_reducible assumption))))); done)))
  | ((with_reducible apply WT.pre); (focus ((repeat (first | with_reducible apply Pre.snoc | with_reducible exact Pre.refl)); done)); (focus ((repeat (first | with_reducible exact LenIs.base | with_reducible apply LenIs.set | ((with_reducible apply LenIs.dr); (focus (with_reducible assumption))))); done)); (focus (first | with_reducible assumption | exact rfl | exact plain_tup (fun _ => rfl) | exact plain_lst (fun _ => rfl))); (focus (first | with_reducible assumption | exact Dr.stay (by with_reducible assumption) (by with_reducible assumption))))
  | ((with_reducible apply WT.len); (focus ((simp only [List.length_append, List.length_set, List.length_cons, List.length_nil]); done)))
  | ((with_reducible apply WL.map); (focus (intro _ hx; (try have hx' := List.mem_range.mp hx); (repeat infer_instance); (with_reducible exact mapRR))); (focus (first | with_reducible assumption | exact LINE_m (by (try simp only [List.length_map, List.length_append, List.length_cons, List.length_nil, List.length_range]); omega))); ((with_reducible apply mk_f); (focus (first | with_reducible assumption | exact LINE_m (by (try simp only [List.length_map, List.length_append, List.length_cons, List.length_nil, List.length_range]); omega)))))))
namespace MP
section
variable {P : Prog} {n : Nat} {S : Store} {w : Str}
theorem nl_len : (nmS "\n").length = 1 := by decide
theorem sp_len' : (nmS " ").length = 1 := by decide
theorem sheet_e {F : FnC} (hF : F = c__law_sheet) {f : String} [Has P f F] {rows : List Row} (hn : 1 ≤ n) (hw : nameOk w = true) (hl : rows.length ≤ 100) (h : ∀ r ∈ rows, Good r) :
    callF P n f [.lst (rows.map rowD), .str w] S = .ok (.str (sheetT w rows)) S := by
  obtain ⟨n, rfl⟩ : ∃ k, n = k + 1 := ⟨n - 1, by omega⟩
  subst hF
  refine WC.eq (WC.run rfl (by ac_rfl) ?_)
  unfold c__law_sheet
  repeat infer_instance
  have h0 := name_len hw
  have hsp := sp_len'
  refine WL.map (h := fun r : Row => .str (rowT w r)) (fun r hr => ?_) ?_ ?_
  · have g := h r hr
    have h1 := name_len g.name
    have h2 := numT_len (i := r.2.1) (by have := g.a; omega) g.a'
    have h3 := numT_len (i := r.2.2) (by have := g.b; omega) g.b'
    repeat infer_instance
    refine WO.mk' (prim_strI (by have := g.a; have := g.a'; omega)) ?_
    repeat infer_instance
    refine WO.mk' (prim_strI (by have := g.b; have := g.b'; omega)) ?_
    repeat infer_instance
    exact ⟨rfl, rfl⟩
  · exact LINE_m (by omega)
  · refine mk_f (by rw [List.length_map]; exact LINE_m (by omega)) ?_
    repeat infer_instance
    have h1 := sum_le hw h
    refine WM.join (l := rows) (f := rowT w) (LINE_m (by rw [nl_len]; omega)) ?_
    repeat infer_instance
    exact ⟨rfl, rfl⟩
theorem letters_iff {c : Nat} : (c ∈ (nmS "abcdefghijklmnopqrstuvwxyz").cps.toList) ↔ 97 ≤ c ∧ c ≤ 122 := by
  constructor
  · intro h
    have : ∀ x ∈ (nmS "abcdefghijklmnopqrstuvwxyz").cps.toList, 97 ≤ x ∧ x ≤ 122 := by decide +kernel
    exact this c h
  · exact fun ⟨a, b⟩ => letters_all c a b
theorem figures_iff {c : Nat} : (c ∈ (nmS "0123456789").cps.toList) ↔ 48 ≤ c ∧ c ≤ 57 := by
  constructor
  · intro h
    have : ∀ x ∈ (nmS "0123456789").cps.toList, 48 ≤ x ∧ x ≤ 57 := by decide +kernel
    exact this c h
  · exact fun ⟨a, b⟩ => figures_all c a b
theorem inC_sign {c : Nat} {z : Str} {Q : Bool → Prop} (h : Q (decide (c ∈ z.cps.toList))) : WO (cmpF S .in_ (.str ⟨#[c]⟩) (.str z)) Q := ⟨⟨_, rfl, h⟩⟩
theorem isty_str {x : Str} {Q : Bool → Prop} (h : Q true) : WO (anyTy (.str x) S [.str]) Q := ⟨⟨_, rfl, h⟩⟩
section
variable [Has P "is_name" c_is_name] [HasG P "MOST_LETTERS" (.int 8)] [HasG P "LETTERS" (.str (nmS "abcdefghijklmnopqrstuvwxyz"))]
theorem is_name_e {x : Str} (hn : 1 ≤ n) (hx : x.length ≤ LINE) : callF P n "is_name" [.str x] S = .ok (.bl (nameOk x)) S := by
  obtain ⟨n, rfl⟩ : ∃ k, n = k + 1 := ⟨n - 1, by omega⟩
  refine WC.eq (WC.run rfl (by ac_rfl) ?_)
  unfold c_is_name
  repeat infer_instance
  refine WO.lenS hx ?_
  repeat infer_instance
  have e1 : nameOk x = (decide ((1 : Int) ≤ x.length) && decide ((x.length : Int) ≤ 8) && x.cps.toList.all fun c => decide (c ∈ (nmS "abcdefghijklmnopqrstuvwxyz").cps.toList)) := by
    unfold nameOk
    congr 1
    · congr 1 <;> exact decide_eq_decide.mpr (by omega)
    · show x.cps.toList.all _ = _
      congr 1; funext c
      rw [← Bool.decide_and]; exact decide_eq_decide.mpr letters_iff.symm
  refine brD' (fun h1 => ?_) (fun h1 => ?_)
  · repeat infer_instance
    simp [e1, h1]
  · repeat infer_instance
    have h1' : (1 : Int) ≤ x.length := h1
    refine brX (fun h2 => ?_) (fun h2 => ?_)
    · repeat infer_instance
      simp [e1, h2]
    · repeat infer_instance
      refine WL.map (l := x.cps.toList) (g := fun c => .str ⟨#[c]⟩) (h := fun c => .bl (decide (c ∈ (nmS "abcdefghijklmnopqrstuvwxyz").cps.toList))) (fun c hc => ?_) hx ?_
      · repeat infer_instance
        exact ⟨rfl, rfl⟩
      · refine mk_f (by rw [List.length_map]; exact hx) ?_
        repeat infer_instance
        refine ⟨?_, rfl⟩
        rw [e1]; simp [h1', h2]
end
section
variable [Has P "number_in" c_number_in] [HasG P "MOST_FIGURES" (.int 60)] [HasG P "FIGURES" (.str (nmS "0123456789"))]
theorem number_e {i most : Int} (hn : 1 ≤ n) (h1 : 1 ≤ i) (h2 : i ≤ most) (h3 : i ≤ 10 ^ 40) : callF P n "number_in" [.str (numT i), .int most] S = .ok (.int i) S := by
  obtain ⟨n, rfl⟩ : ∃ k, n = k + 1 := ⟨n - 1, by omega⟩
  have hn := numT_len (i := i) (by omega) h3
  have ht := tl_numT (i := i) (by omega)
  have hne : 1 ≤ (numT i).length := by rw [len_tl, ht]; exact List.length_pos_iff.mpr (numL_ne _)
  have hl : (numT i).length ≤ LINE := LINE_m (by omega)
  have hit : primF .int [.str (numT i)] S = some (.int i) := by
    show (if (numT i).length ≤ 640 then (intText? (numT i)).map D.int else none) = _
    obtain ⟨n, rfl⟩ := Int.eq_ofNat_of_zero_le (show 0 ≤ i by omega)
    rw [if_pos (by omega)]
    rw [numT, int_num (n := n) (by rw [len_tl, ht] at hn; exact Nat.le_trans hn (by decide))]
    rfl
  obtain ⟨c, r, hc⟩ : ∃ c r, tl (numT i) = c :: r := by
    cases e : tl (numT i) with
    | nil => rw [len_tl, e] at hne; simp at hne
    | cons c r => exact ⟨c, r, rfl⟩
  have h0 : c ≠ 48 := by
    have := numL_head (n := i.toNat) (by omega)
    rw [← ht, hc] at this
    simpa using this
  have hat : itemF S (.str (numT i)) (.int 0) = some (.str ⟨#[c]⟩) := by
    have hx : (numT i).cps.toList = c :: r := hc
    simp only [itemF, if_pos hl, hx]
    rw [atF_nat (xs := c :: r) (i := 0) (j := 0) (x := c) rfl rfl]; rfl
  have hz : ((⟨#[c]⟩ : Str) == nmS "0") = false := beq_eq_false_iff_ne.mpr fun e => by
    have := congrArg tl e
    rw [show tl (nmS "0") = [48] by decide] at this
    exact h0 (by simpa [tl] using this)
  refine WC.eq (WC.run rfl (by ac_rfl) ?_)
  unfold c_number_in
  repeat infer_instance
  refine WO.lenS hl ?_
  repeat infer_instance
  refine brD' (fun h => by omega) (fun _ => ?_)
  repeat infer_instance
  refine brX (fun h => by omega) (fun _ => ?_)
  repeat infer_instance
  refine WL.map (l := (numT i).cps.toList) (g := fun c => .str ⟨#[c]⟩) (h := fun c => .bl (decide (c ∈ (nmS "0123456789").cps.toList))) (fun c hc => ?_) hl ?_
  · repeat infer_instance
    exact ⟨rfl, rfl⟩
  · refine mk_f (by rw [List.length_map]; exact hl) ?_
    repeat infer_instance
    refine brN ?_ ?_
    · simp only [Bool.not_eq_false', List.all_eq_true, decide_eq_true_eq]
      intro c hc
      have hd := numL_digits i.toNat c (by rw [← ht]; exact hc)
      exact figures_iff.mpr (by omega)
    repeat infer_instance
    refine brP (by simpa using h2) ?_
    repeat infer_instance
    exact ⟨rfl, rfl⟩
end
end
end MP
end

section
set_option linter.all false
set_option autoImplicit false
set_option maxRecDepth 4000
set_option maxHeartbeats 1000000
open PySem MP MP.C L2 PyProof.Rows TL
local macro_rules | `(tactic| decreasing_trivial_pre_omega) => `(tactic| first | with_reducible assumption | exact bigOk_of (by omega) | omega)
local macro_rules | `(tactic| ac_rfl) => `(tactic| (repeat (first | with_reducible exact GetAt.z | with_reducible apply GetAt.s | with_reducible exact SetAt.z | with_reducible apply SetAt.s | with_reducible exact WipeAt.n | with_reducible apply WipeAt.c | with_reducible exact SetM.n | with_reducible apply SetM.c | with_reducible exact StartAt.z | apply StartAt.a | apply StartAt.p | with_reducible assumption | ((with_reducible apply CellAt.last); (focus ((repeat (first | with_reducible apply LenAt.snoc | with_reducible exact LenAt.base)); done))) | with_reducible apply CellAt.skip | with_reducible apply CellAt.setS | with_reducible apply LenAt.snoc | with_reducible exact LenAt.base | ((with_reducible apply CellSet.last); (focus ((repeat (first | with_reducible apply LenAt.snoc | with_reducible exact LenAt.base)); done))) | with_reducible apply CellSet.skip | with_reducible apply CellSet.setS | with_reducible apply CellSet.base | with_reducible exact LSet.z | with_reducible apply LSet.s)))
local macro_rules | `(tactic| infer_instance) => `(tactic| (first
  | with_reducible apply WSs.cons | with_reducible apply WSs.nil | with_reducible apply WS.set | with_reducible apply WS.ret | with_reducible apply WS.ifS | with_reducible apply WS.expr | with_reducible apply WS.par | with_reducible apply WS.setItem | with_reducible apply WS.setAttr | with_reducible apply WS.retN | with_reducible apply WS.pass | with_reducible apply WS.brk | with_reducible apply WS.cont | with_reducible apply WS.raise | with_reducible apply WS.forS
  | ((with_reducible apply WS.aug); (focus (ac_rfl; done)))
  | ((with_reducible apply WE.var); (focus (ac_rfl; done)))
  | with_reducible apply WE.cst | with_reducible apply WE.bin | with_reducible apply WE.item | with_reducible apply WE.cmp | with_reducible apply WEs.cons | with_reducible apply WEs.nil | with_reducible apply WE.prim
  | ((with_reducible apply WE.call); (focus (first | exact HasF.gl | assumption | rfl | decide)))
  | with_reducible apply WE.andT | with_reducible apply WE.orT | with_reducible apply WE.notT | ((with_reducible apply WE.t); (focus (exact rfl))) | with_reducible apply WE.rng | with_reducible apply WE.enu | with_reducible apply WE.zip | ((with_reducible apply WE.i); (focus (exact rfl)))
  | with_reducible apply WE.andV | with_reducible apply WE.orV | with_reducible apply WE.notV | with_reducible apply WE.ite | with_reducible apply WE.chain | with_reducible apply WE.neg
  | ((with_reducible apply WE.gc); (focus (first | exact HasG.gl | assumption | rfl)))
  | with_reducible apply WE.tup | with_reducible apply WE.lstF | with_reducible apply WE.lstT | with_reducible apply WE.slNS | with_reducible apply WE.slSN | with_reducible apply WE.slSS | with_reducible apply WE.slNN | with_reducible apply WE.meth | ((with_reducible apply WE.callK); (focus (exact rfl))) | ((with_reducible apply WE.new); (focus (first | exact rfl | (rw [HasC.cl]; exact rfl)))) | ((with_reducible apply WE.newK); (focus (first | exact rfl | (rw [HasC.cl]; exact rfl))); (focus (first | exact HasK.kw | exact rfl))) | with_reducible apply WE.ometh | with_reducible apply WE.attr | ((with_reducible apply WE.isi); (focus (first | exact rfl | (simp [tyOk, HasC.cl]; done))))
  | with_reducible apply WE.fmt | with_reducible apply WE.fstr | with_reducible apply WFs.nil | with_reducible apply WFs.cons | with_reducible apply WE.frz | ((with_reducible apply WE.dct0); (focus (ac_rfl; done))) | with_reducible apply WE.oeq | with_reducible apply WE.ostr | with_reducible apply WE.orepr | with_reducible apply WE.obool
  | ((with_reducible apply WE.lc); (focus (ac_rfl; done)))
  | ((with_reducible apply WB.var); (focus (ac_rfl; done)))
  | ((with_reducible apply WB.tup); (focus (exact rfl))) | with_reducible apply WBs.cons | with_reducible apply WBs.nil
  | with_reducible apply exBl | with_reducible apply exInt | with_reducible apply exStr
  | with_reducible refine ⟨_, by (ac_rfl; done), ?_⟩
  | ((with_reducible apply lenLit); (focus (exact rfl)))
  | ((with_reducible apply WO.mul); (focus (decreasing_trivial_pre_omega; done)); (focus (decreasing_trivial_pre_omega; done)))
  | ((with_reducible apply WO.fdiv); (focus (decreasing_trivial_pre_omega; done)); (focus (decreasing_trivial_pre_omega; done)))
  | ((with_reducible apply WO.mod); (focus (decreasing_trivial_pre_omega; done)))
  | ((with_reducible apply WO.p10); (focus (exact rfl))) | ((with_reducible apply WO.storeAttr); (focus (ac_rfl; done)); (focus (exact HasC.cl)); (focus (exact rfl)); (focus (ac_rfl; done)))
  | ((with_reducible apply WA.fld); (focus (exact HasC.cl)); (focus (exact rfl)); (focus (exact rfl)); (focus (exact rfl))) | ((with_reducible apply WA.prop); (focus (exact HasC.cl)); (focus (exact rfl)))
  | with_reducible apply WO.eqI | with_reducible apply WO.neI | with_reducible apply WO.eqS | with_reducible apply WO.neS | with_reducible apply WO.min2 | with_reducible apply WO.max2 | with_reducible apply WO.abs1 | with_reducible apply WO.lenM | with_reducible apply WO.lenTM
  | with_reducible apply WO.sumL | with_reducible apply WO.allL | with_reducible apply WO.anyL | ((with_reducible apply WO.rngN); (focus (omega))) | ((with_reducible apply WO.rngL); (focus (omega)))
  | ((with_reducible apply WO.itemOL); (focus (ac_rfl; done)); (focus (exact rfl)))
  | ((with_reducible apply WO.storeLL); (focus (ac_rfl; done)); (focus (ac_rfl; done)); (focus (ac_rfl; done)))
  | ((with_reducible apply WO.itemD); (focus (ac_rfl; done)); (focus (exact rfl)); (focus (with_reducible assumption))) | ((with_reducible apply WO.inD); (focus (ac_rfl; done)); (focus (exact rfl))) | ((with_reducible apply WO.notinD); (focus (ac_rfl; done)); (focus (exact rfl)))
  | with_reducible apply WO.slM | with_reducible apply WO.slTM
  | with_reducible apply WO.itemC | with_reducible apply WO.itemTC
  | ((fail_if_success (with_reducible apply WO.gMul)); (fail_if_success (with_reducible apply WO.gDiv)); (with_reducible apply WO.mk'); (focus (first | with_reducible assumption | exact rfl)))
  | ((with_reducible apply WO.addS); (focus (first | with_reducible assumption | exact LINE_m (by (try simp only [len_app']); omega))))
  | ((with_reducible apply recvS); (focus (exact rfl))) | ((with_reducible apply recvL); (focus (exact rfl))) | ((with_reducible apply recvO); (focus (ac_rfl; done)); (focus (exact rfl))) | ((with_reducible apply clsK); (focus (first | with_reducible assumption | exact rfl)))
  | ((with_reducible apply appK); (focus (ac_rfl; done)); (focus (first | with_reducible assumption | exact LINE_ml (by (try simp only [List.length_map, List.length_append, List.length_cons, List.length_nil]); omega))); (focus (ac_rfl; done)))
  | ((with_reducible apply WO.storeD); (focus (ac_rfl; done)); (focus (exact rfl)); (focus (first | with_reducible assumption | exact LINE_ml (by (try simp only [List.length_map, List.length_append, List.length_cons, List.length_nil]); omega))); (focus (ac_rfl; done)))
  | ((with_reducible apply brP); (focus (first | with_reducible assumption | exact rfl))) | ((with_reducible apply brN); (focus (first | with_reducible assumption | exact rfl))) | ((with_reducible apply brP'); (focus (first | with_reducible assumption | exact rfl))) | ((with_reducible apply brN'); (focus (first | with_reducible assumption | exact rfl)))
  | ((with_reducible apply WO.lenOM); (focus (ac_rfl; done))) | ((with_reducible apply WO.lenO); (focus (ac_rfl; done))) | ((with_reducible apply WO.tupO); (focus (ac_rfl; done))) | ((with_reducible apply WO.iterO); (focus (ac_rfl; done))) | ((with_reducible apply WZ.lst); (focus (ac_rfl; done)); (focus (ac_rfl; done)))
  | ((with_reducible apply WT.same); (focus ((repeat (first | with_reducible exact LenIs.base | with_reducible apply LenIs.set | ((with_reducible apply LenIs.dr); (focus (with_reducible assumption))))); done)))
  | ((with_reducible apply WT.pre); (focus ((repeat (first | with_reducible apply Pre.snoc | with_reducible exact Pre.refl)); done)); (focus ((repeat (first | with_reducible exact LenIs.base | with_reducible apply LenIs.set | ((with_reducible apply LenIs.dr); (focus (with_reducible assumption))))); done)); (focus (first | with_reducible assumption | exact rfl | exact plain_tup (fun _ => rfl) | exact plain_lst (fun _ => rfl))); (focus (first | with_reducible assumption | exact Dr.stay (by with_reducible assumption) (by with_reducible assumption))))
  | ((with_reducible apply WT.len); (focus ((simp only [List.length_append, List.length_set, List.length_cons, List.length_nil]); done)))
  | ((with_reducible apply WL.map); (focus (intro _ hx; (try have hx' := List.mem_range.mp hx); (repeat infer_instance); (with_reducible exact mapRR))); (focus (first | with_reducible assumption | exact LINE_m (by (try simp only [List.length_map, List.length_append, List.length_cons, List.length_nil, List.length_range]); omega))); ((with_reducible apply mk_f); (focus (first | with_reducible assumption | exact LINE_m (by (try simp only [List.length_map, List.length_append, List.length_cons, List.length_nil, List.length_range]); omega)))))))
namespace MP
/-- rows that make a thing -/
structure Rows (ma mb : Int) (rows : List Row) : Prop where
  ne : rows ≠ []
  le : rows.length ≤ 6
  good : ∀ r ∈ rows, Good r
  nd : (rows.map (·.1)).Nodup
  a : ∀ r ∈ rows, r.2.1 ≤ ma
  b : ∀ r ∈ rows, r.2.2 ≤ mb
def knownD (rows : List Row) : List (Sum Int Str × D) := rows.map fun r => (.inr r.1, .bl true)
theorem known_no {done : List Row} {x : Str} (h : x ∉ done.map (·.1)) : valD (knownD done) (.inr x) = none := by
  unfold valD
  rw [List.find?_eq_none.mpr]
  · rfl
  · intro kv hk
    obtain ⟨r, hr, rfl⟩ := List.mem_map.mp hk
    simp only [decide_eq_true_eq, Sum.inr.injEq]
    exact fun e => h (e ▸ List.mem_map_of_mem hr)
theorem known_put {done : List Row} {r : Row} (h : r.1 ∉ done.map (·.1)) : putD (knownD done) (.inr r.1) (.bl true) = knownD (done ++ [r]) := by
  unfold putD
  rw [if_neg]
  · simp [knownD]
  · intro ha
    obtain ⟨kv, hk, e⟩ := List.any_eq_true.mp ha
    obtain ⟨q, hq, rfl⟩ := List.mem_map.mp hk
    simp only [decide_eq_true_eq, Sum.inr.injEq] at e
    exact h (e ▸ List.mem_map_of_mem hq)
theorem in_non (u v : Int) : inF .non [.int u, .int v] = some false := by
  simp [inF, D.py, D.pys, PyData.canLay0, PyData.canLayAll0, PyData.depth, PyData.eqv]
theorem in_zero {u v : Int} (hu : 1 ≤ u) (hv : 1 ≤ v) : inF (.int 0) [.int u, .int v] = some false := by
  have h1 : (u == 0) = false := by simp; omega
  have h2 : (v == 0) = false := by simp; omega
  simp [inF, D.py, D.pys, PyData.canLay0, PyData.canLayAll0, PyData.depth, PyData.eqv, h1, h2]
section
variable {P : Prog} {n : Nat} {S : Store} {w : Str}
variable [Has P "is_name" c_is_name] [HasF P "is_name"] [HasG P "MOST_LETTERS" (.int 8)] [HasG P "LETTERS" (.str (nmS "abcdefghijklmnopqrstuvwxyz"))]
variable [Has P "number_in" c_number_in] [HasF P "number_in"] [HasG P "MOST_FIGURES" (.int 60)] [HasG P "FIGURES" (.str (nmS "0123456789"))]
variable [Has P "rows_in" c_rows_in]
theorem rows_in_e {ma mb : Int} {rows : List Row} (hS : Stay S) (hn : 2 ≤ n) (hw : nameOk w = true) (h : Rows ma mb rows) :
    callF P n "rows_in" [.str (sheetT w rows), .str w, .int 6, .tup [.int ma, .int mb]] S = .ok (.tup (rows.map rowU)) S := by
  obtain ⟨n, rfl⟩ : ∃ k, n = k + 1 := ⟨n - 1, by omega⟩
  have hsl := sheet_len hw h.good
  have hle := h.le
  refine WC.eq (WC.run rfl (by ac_rfl) ?_)
  unfold c_rows_in
  repeat infer_instance
  refine WM.split (by decide) (LINE_m (by omega)) ?_
  rw [split_sheet hw h.ne h.good, List.map_map]
  repeat infer_instance
  refine WF.inv (fun dn rs ρ st => ∃ a b c, ρ = [some (.str (sheetT w rows)), some (.str w), some (.int 6), some (.tup [.int ma, .int mb]), some (.own S.length), some (.own (S.length + 1)), a, b, c, none, none] ∧ st = S ++ [.lst (dn.map rowU)] ++ [.dct (knownD dn)]) ⟨_, _, _, rfl, rfl⟩ (fun _ _ _ _ _ => rfl) ?_ ?_
  · rintro dn r rs ρ st e ⟨a, b, c, rfl, rfl⟩
    have hr : r ∈ rows := by rw [e]; simp
    have g := h.good r hr
    have ha := h.a r hr
    have hb := h.b r hr
    have hrl := rowT_len hw g
    have hnl := name_len g.name
    have hdl : dn.length < 10 := by have := congrArg List.length e; simp at this; omega
    have hnew : r.1 ∉ dn.map (·.1) := by
      have := h.nd
      rw [e, List.map_append, List.nodup_append] at this
      exact fun hm => this.2.2 _ hm _ (by simp) rfl
    have hww : (!(w == w)) = false := by simp
    show WB _ _ (D.str (rowT w r)) _ _
    repeat infer_instance
    refine WM.split (by decide) (LINE_m (by omega)) ?_
    rw [split_row hw g]
    repeat infer_instance
    refine WC.of_eq (is_name_e (by omega) (LINE_m (by omega))) ?_
    rw [g.name]
    repeat infer_instance
    rw [known_no hnew]
    repeat infer_instance
    refine WL.map (l := [(r.2.1, ma), (r.2.2, mb)]) (g := fun z : Int × Int => .tup [.str (numT z.1), .int z.2]) (h := fun z : Int × Int => .int z.1) (fun z hz => ?_) (LINE_of rfl) ?_
    · repeat infer_instance
      refine WC.of_eq (d := .int z.1) (st' := S ++ [.lst (dn.map rowU)] ++ [.dct (knownD dn)]) ?_ ⟨rfl, rfl⟩
      simp only [List.mem_cons, List.not_mem_nil, or_false] at hz
      rcases hz with rfl | rfl
      · exact number_e (by omega) g.a ha g.a'
      · exact number_e (by omega) g.b hb g.b'
    · refine mk_f (LINE_of rfl) ?_
      have h1 : (([PyData.int (r.2.1, ma).1, PyData.int (r.2.2, mb).1].any fun b => b.eqv (PyData.int 0)) = false) := by
        have := g.a; have := g.b
        simp [PyData.eqv]; omega
      repeat infer_instance
      refine WO.storeD (by ac_rfl) rfl (LINE_ml (by rw [knownD, List.length_map]; omega)) (by ac_rfl) ?_
      rw [known_put hnew]
      repeat infer_instance
      refine ⟨_, _, _, rfl, by simp [rowU]⟩
  · rintro ρ st ⟨a, b, c, rfl, rfl⟩
    repeat infer_instance
    refine brP (by simp; omega) ?_
    repeat infer_instance
    exact ⟨rfl, rfl⟩
end
end MP
end

section
set_option linter.all false
set_option autoImplicit false
set_option maxRecDepth 4000
set_option maxHeartbeats 1000000
open PySem MP MP.C L2 PyProof.Rows TL
local macro_rules | `(tactic| decreasing_trivial_pre_omega) => `(tactic| first | with_reducible assumption | exact bigOk_of (by omega) | omega)
local macro_rules | `(tactic| ac_rfl) => `(tactic| (repeat (first | with_reducible exact GetAt.z | with_reducible apply GetAt.s | with_reducible exact SetAt.z | with_reducible apply SetAt.s | with_reducible exact WipeAt.n | with_reducible apply WipeAt.c | with_reducible exact SetM.n | with_reducible apply SetM.c | with_reducible exact StartAt.z | apply StartAt.a | apply StartAt.p | with_reducible assumption | ((with_reducible apply CellAt.last); (focus ((repeat (first | with_reducible apply LenAt.snoc | with_reducible exact LenAt.base)); done))) | with_reducible apply CellAt.skip | with_reducible apply CellAt.setS | with_reducible apply LenAt.snoc | with_reducible exact LenAt.base | ((with_reducible apply CellSet.last); (focus ((repeat (first | with_reducible apply LenAt.snoc | with_reducible exact LenAt.base)); done))) | with_reducible apply CellSet.skip | with_reducible apply CellSet.setS | with_reducible apply CellSet.base | with_reducible exact LSet.z | with_reducible apply LSet.s)))
local macro_rules | `(tactic| infer_instance) => `(tactic| (first
  | with_reducible apply WSs.cons | with_reducible apply WSs.nil | with_reducible apply WS.set | with_reducible apply WS.ret | with_reducible apply WS.ifS | with_reducible apply WS.expr | with_reducible apply WS.par | with_reducible apply WS.setItem | with_reducible apply WS.setAttr | with_reducible apply WS.retN | with_reducible apply WS.pass | with_reducible apply WS.brk | with_reducible apply WS.cont | with_reducible apply WS.raise | with_reducible apply WS.forS
  | ((with_reducible apply WS.aug); (focus (ac_rfl; done)))
  | ((with_reducible apply WE.var); (focus (ac_rfl; done)))
  | with_reducible apply WE.cst | with_reducible apply WE.bin | with_reducible apply WE.item | with_reducible apply WE.cmp | with_reducible apply WEs.cons | with_reducible apply WEs.nil | with_reducible apply WE.prim
  | ((with_reducible apply WE.call); (focus (first | exact HasF.gl | assumption | rfl | decide)))
  | with_reducible apply WE.andT | with_reducible apply WE.orT | with_reducible apply WE.notT | ((with_reducible apply WE.t); (focus (exact rfl))) | with_reducible apply WE.rng | with_reducible apply WE.enu | with_reducible apply WE.zip | ((with_reducible apply WE.i); (focus (exact rfl)))
  | with_reducible apply WE.andV | with_reducible apply WE.orV | with_reducible apply WE.notV | with_reducible apply WE.ite | with_reducible apply WE.chain | with_reducible apply WE.neg
  | ((with_reducible apply WE.gc); (focus (first | exact HasG.gl | assumption | rfl)))
  | with_reducible apply WE.tup | with_reducible apply WE.lstF | with_reducible apply WE.lstT | with_reducible apply WE.slNS | with_reducible apply WE.slSN | with_reducible apply WE.slSS | with_reducible apply WE.slNN | with_reducible apply WE.meth | ((with_reducible apply WE.callK); (focus (exact rfl))) | ((with_reducible apply WE.new); (focus (first | exact rfl | (rw [HasC.cl]; exact rfl)))) | ((with_reducible apply WE.newK); (focus (first | exact rfl | (rw [HasC.cl]; exact rfl))); (focus (first | exact HasK.kw | exact rfl))) | with_reducible apply WE.ometh | with_reducible apply WE.attr | ((with_reducible apply WE.isi); (focus (first | exact rfl | (simp [tyOk, HasC.cl]; done))))
  | with_reducible apply WE.fmt | with_reducible apply WE.fstr | with_reducible apply WFs.nil | with_reducible apply WFs.cons | with_reducible apply WE.frz | ((with_reducible apply WE.dct0); (focus (ac_rfl; done))) | with_reducible apply WE.oeq | with_reducible apply WE.ostr | with_reducible apply WE.orepr | with_reducible apply WE.obool
  | ((with_reducible apply WE.lc); (focus (ac_rfl; done)))
  | ((with_reducible apply WB.var); (focus (ac_rfl; done)))
  | ((with_reducible apply WB.tup); (focus (exact rfl))) | with_reducible apply WBs.cons | with_reducible apply WBs.nil
  | with_reducible apply exBl | with_reducible apply exInt | with_reducible apply exStr
  | with_reducible refine ⟨_, by (ac_rfl; done), ?_⟩
  | ((with_reducible apply lenLit); (focus (exact rfl)))
  | ((with_reducible apply WO.mul); (focus (decreasing_trivial_pre_omega; done)); (focus (decreasing_trivial_pre_omega; done)))
  | ((with_reducible apply WO.fdiv); (focus (decreasing_trivial_pre_omega; done)); (focus (decreasing_trivial_pre_omega; done)))
  | ((with_reducible apply WO.mod); (focus (decreasing_trivial_pre_omega; done)))
  | ((with_reducible apply WO.p10); (focus (exact rfl))) | ((with_reducible apply WO.storeAttr); (focus (ac_rfl; done)); (focus (exact HasC.cl)); (focus (exact rfl)); (focus (ac_rfl; done)))
  | ((with_reducible apply WA.fld); (focus (exact HasC.cl)); (focus (exact rfl)); (focus (exact rfl)); (focus (exact rfl))) | ((with_reducible apply WA.prop); (focus (exact HasC.cl)); (focus (exact rfl)))
  | with_reducible apply WO.eqI | with_reducible apply WO.neI | with_reducible apply WO.eqS | with_reducible apply WO.neS | with_reducible apply WO.min2 | with_reducible apply WO.max2 | with_reducible apply WO.abs1 | with_reducible apply WO.lenM | with_reducible apply WO.lenTM
  | with_reducible apply WO.sumL | with_reducible apply WO.allL | with_reducible apply WO.anyL | ((with_reducible apply WO.rngN); (focus (omega))) | ((with_reducible apply WO.rngL); (focus (omega)))
  | ((with_reducible apply WO.itemOL); (focus (ac_rfl; done)); (focus (exact rfl)))
  | ((with_reducible apply WO.storeLL); (focus (ac_rfl; done)); (focus (ac_rfl; done)); (focus (ac_rfl; done)))
  | ((with_reducible apply WO.itemD); (focus (ac_rfl; done)); (focus (exact rfl)); (focus (with_reducible assumption))) | ((with_reducible apply WO.inD); (focus (ac_rfl; done)); (focus (exact rfl))) | ((with_reducible apply WO.notinD); (focus (ac_rfl; done)); (focus (exact rfl)))
  | with_reducible apply WO.slM | with_reducible apply WO.slTM
  | with_reducible apply WO.itemC | with_reducible apply WO.itemTC
  | ((fail_if_success (with_reducible apply WO.gMul)); (fail_if_success (with_reducible apply WO.gDiv)); (with_reducible apply WO.mk'); (focus (first | with_reducible assumption | exact rfl)))
  | ((with_reducible apply WO.addS); (focus (first | with_reducible assumption | exact LINE_m (by (try simp only [len_app']); omega))))
  | ((with_reducible apply recvS); (focus (exact rfl))) | ((with_reducible apply recvL); (focus (exact rfl))) | ((with_reducible apply recvO); (focus (ac_rfl; done)); (focus (exact rfl))) | ((with_reducible apply clsK); (focus (first | with_reducible assumption | exact rfl)))
  | ((with_reducible apply appK); (focus (ac_rfl; done)); (focus (first | with_reducible assumption | exact LINE_ml (by (try simp only [List.length_map, List.length_append, List.length_cons, List.length_nil]); omega))); (focus (ac_rfl; done)))
  | ((with_reducible apply WO.storeD); (focus (ac_rfl; done)); (focus (exact rfl)); (focus (first | with_reducible assumption | exact LINE_ml (by (try simp only [List.length_map, List.length_append, List.length_cons, List.length_nil]); omega))); (focus (ac_rfl; done)))
  | ((with_reducible apply brP); (focus (first | with_reducible assumption | exact rfl))) | ((with_reducible apply brN); (focus (first | with_reducible assumption | exact rfl))) | ((with_reducible apply brP'); (focus (first | with_reducible assumption | exact rfl))) | ((with_reducible apply brN'); (focus (first | with_reducible assumption | exact rfl)))
  | ((with_reducible apply WO.lenOM); (focus (ac_rfl; done))) | ((with_reducible apply WO.lenO); (focus (ac_rfl; done))) | ((with_reducible apply WO.tupO); (focus (ac_rfl; done))) | ((with_reducible apply WO.iterO); (focus (ac_rfl; done))) | ((with_reducible apply WZ.lst); (focus (ac_rfl; done)); (focus (ac_rfl; done)))
  | ((with_reducible apply WT.same); (focus ((repeat (first | with_reducible exact LenIs.base | with_reducible apply LenIs.set | ((with_reducible apply LenIs.dr); (focus (with_reducible assumption))))); done)))
  | ((with_reducible apply WT.pre); (focus ((repeat (first | with_reducible apply Pre.snoc | with_reducible exact Pre.refl)); done)); (focus ((repeat (first | with_reducible exact LenIs.base | with_reducible apply LenIs.set | ((with_reducible apply LenIs.dr); (focus (with_reducible assumption))))); done)); (focus (first | with_reducible assumption | exact rfl | exact plain_tup (fun _ => rfl) | exact plain_lst (fun _ => rfl))); (focus (first | with_reducible assumption | exact Dr.stay (by with_reducible assumption) (by with_reducible assumption))))
  | ((with_reducible apply WT.len); (focus ((simp only [List.length_append, List.length_set, List.length_cons, List.length_nil]); done)))
  | ((with_reducible apply WL.map); (focus (intro _ hx; (try have hx' := List.mem_range.mp hx); (repeat infer_instance); (with_reducible exact mapRR))); (focus (first | with_reducible assumption | exact LINE_m (by (try simp only [List.length_map, List.length_append, List.length_cons, List.length_nil, List.length_range]); omega))); ((with_reducible apply mk_f); (focus (first | with_reducible assumption | exact LINE_m (by (try simp only [List.length_map, List.length_append, List.length_cons, List.length_nil, List.length_range]); omega)))))))
namespace MP
abbrev MM : Int := 1000000000000
abbrev MC : Int := 1000000000000000000000000000000
abbrev clS : Str := nmS "class"
abbrev usS : Str := nmS "use"
theorem cl_ok : nameOk clS = true := by decide
theorem us_ok : nameOk usS = true := by decide
theorem empty_app (a : Str) : Str.empty ++ a = a := ext_tl (by rw [tl_append]; rfl)
theorem rowU_plain (rows : List Row) : (D.tup (rows.map rowU)).plain = true := plain_tup fun _ => rfl
theorem fmt_num {i : Int} {Q : Str → Prop} (h1 : 0 ≤ i) (h2 : i ≤ 10 ^ 40) (h : Q (numT i)) : WO (fmtF (.int i)) Q := ⟨⟨_, by
  show (if i.natAbs.log2 < 1920 then some (toString i : Str) else none) = _
  rw [if_pos (log_ok (by omega))]; rfl, h⟩⟩
theorem strN {i : Int} {st : Store} {Q : D → Prop} (h1 : i.natAbs < 10 ^ 60) (h : Q (.str (numT i))) : WO (primF .str [.int i] st) Q := .mk' (prim_strI (by omega)) h
theorem fmt_str {x : Str} {Q : Str → Prop} (h1 : x.length ≤ LINE) (h : Q x) : WO (fmtF (.str x)) Q := ⟨⟨x, by
  show (if x.length ≤ LINE then some x else none) = _
  rw [if_pos h1], h⟩⟩

section
variable {P : Prog} {n : Nat} {S : Store}
def stockD (rows : List Row) : D := .obj "Stock" ["wording", "lines"] [.str (sheetT clS rows), .tup (rows.map rowU)]
theorem stockD_plain (rows : List Row) : (stockD rows).plain = true := by
  have := rowU_plain rows
  simp [stockD, D.plain, D.plains] at this ⊢; exact this
variable [HasC P "Stock" k_Stock]
section
variable [Has P "is_name" c_is_name] [HasF P "is_name"] [HasG P "MOST_LETTERS" (.int 8)] [HasG P "LETTERS" (.str (nmS "abcdefghijklmnopqrstuvwxyz"))]
variable [Has P "number_in" c_number_in] [HasF P "number_in"] [HasG P "MOST_FIGURES" (.int 60)] [HasG P "FIGURES" (.str (nmS "0123456789"))]
variable [Has P "rows_in" c_rows_in] [HasF P "rows_in"] [HasG P "MOST_CLASSES" (.int 6)] [HasG P "MOST_MINUTES" (.int MM)] [HasG P "MOST_CELLS" (.int MC)]
variable [Has P "Stock.__init__" c_StockD_initD]
theorem stock_init {rows : List Row} (hS : Stay S) (hn : 3 ≤ n) (h : Rows MM MC rows) :
    WC (callF P n) "Stock.__init__" [.own S.length, .str (sheetT clS rows)] (S ++ [.ins "Stock" []]) (fun x st' => x = .non ∧ st' = S ++ [.ins "Stock" [("wording", .str (sheetT clS rows)), ("lines", .tup (rows.map rowU))]]) nox := by
  obtain ⟨n, rfl⟩ : ∃ k, n = k + 1 := ⟨n - 1, by omega⟩
  refine WC.run rfl (by ac_rfl) ?_
  unfold c_StockD_initD
  repeat infer_instance
  refine WC.of_eq (rows_in_e (hS.add rfl) (by omega) cl_ok h) ?_
  repeat infer_instance
  exact ⟨rfl, rfl⟩
theorem stock_new {rows : List Row} {Q : D → Store → Prop} {X : QX} (hS : Stay S) (hn : 3 ≤ n) (h : Rows MM MC rows) (q : Q (stockD rows) S) :
    WN (callF P n) "Stock.__init__" "Stock" false [.str (sheetT clS rows)] S Q X := by
  refine WN.frz ((stock_init hS hn h).mono (fun x st' z => ?_) (fun _ _ _ z => z.elim)) hS
  obtain ⟨rfl, rfl⟩ := z
  refine ⟨_, rfl, rfl, ?_, q⟩
  have := rowU_plain rows
  simp [D.plain, D.plains] at this ⊢; exact this
end
section
variable [Has P "Stock.text" c_Stock_text]
theorem stock_text {rows : List Row} (hn : 1 ≤ n) : callF P n "Stock.text" [stockD rows] S = .ok (.str (sheetT clS rows)) S := by
  obtain ⟨n, rfl⟩ : ∃ k, n = k + 1 := ⟨n - 1, by omega⟩
  refine WC.eq (WC.run rfl (by ac_rfl) ?_)
  unfold c_Stock_text stockD
  repeat infer_instance
  exact ⟨rfl, rfl⟩
end
theorem stock_col {f : String} {F : FnC} [Has P f F] {g : Row → D} (k : Int) (hF : F = ⟨1, 2, [.ret (.prim .tuple [.lc false [1] (.item (.var 1) (.cst (.int k))) (.var 1) (.attr (.var 0) "lines") []])]⟩)
    (hg : ∀ r : Row, itemF S (rowU r) (.int k) = some (g r)) {rows : List Row} (hn : 1 ≤ n) (hl : rows.length ≤ 6) : callF P n f [stockD rows] S = .ok (.tup (rows.map g)) S := by
  obtain ⟨n, rfl⟩ : ∃ k, n = k + 1 := ⟨n - 1, by omega⟩
  subst hF
  refine WC.eq (WC.run rfl (by ac_rfl) ?_)
  unfold stockD
  repeat infer_instance
  refine WL.map (h := g) (fun r hr => ?_) (LINE_m (by omega)) ?_
  · repeat infer_instance
    refine WO.mk' (hg r) ?_
    exact ⟨rfl, rfl⟩
  · refine mk_f (by rw [List.length_map]; exact LINE_m (by omega)) ?_
    repeat infer_instance
    exact ⟨rfl, rfl⟩
theorem stock_kinds [Has P "Stock.kinds" c_Stock_kinds] {rows : List Row} (hn : 1 ≤ n) (hl : rows.length ≤ 6) : callF P n "Stock.kinds" [stockD rows] S = .ok (.tup (rows.map fun r => .str r.1)) S := stock_col 0 rfl (fun _ => rfl) hn hl
theorem stock_charges [Has P "Stock.charges" c_Stock_charges] {rows : List Row} (hn : 1 ≤ n) (hl : rows.length ≤ 6) : callF P n "Stock.charges" [stockD rows] S = .ok (.tup (rows.map fun r => .int r.2.1)) S := stock_col 1 rfl (fun _ => rfl) hn hl
theorem stock_counts [Has P "Stock.counts" c_Stock_counts] {rows : List Row} (hn : 1 ≤ n) (hl : rows.length ≤ 6) : callF P n "Stock.counts" [stockD rows] S = .ok (.tup (rows.map fun r => .int r.2.2)) S := stock_col 2 rfl (fun _ => rfl) hn hl
def stockR (n : Int) : Str := nmS "Stock of " ++ numT n ++ nmS " classes"
theorem stock_str [Has P "Stock.__str__" c_StockD_strD] {rows : List Row} (hn : 1 ≤ n) : callF P n "Stock.__str__" [stockD rows] S = .ok (.str (sheetT clS rows)) S := by
  obtain ⟨n, rfl⟩ : ∃ k, n = k + 1 := ⟨n - 1, by omega⟩
  refine WC.eq (WC.run rfl (by ac_rfl) ?_)
  unfold c_StockD_strD stockD
  repeat infer_instance
  exact ⟨rfl, rfl⟩
theorem stock_repr [Has P "Stock.__repr__" c_StockD_reprD] {rows : List Row} (hn : 1 ≤ n) (hl : rows.length ≤ 6) : callF P n "Stock.__repr__" [stockD rows] S = .ok (.str (stockR rows.length)) S := by
  obtain ⟨n, rfl⟩ : ∃ k, n = k + 1 := ⟨n - 1, by omega⟩
  have h1 : (nmS "Stock of ").length ≤ 20 := by decide
  have h2 : (nmS " classes").length ≤ 20 := by decide
  have h3 := numT_len (i := rows.length) (by omega) (by omega)
  refine WC.eq (WC.run rfl (by ac_rfl) ?_)
  unfold c_StockD_reprD stockD
  repeat infer_instance
  refine ⟨by rw [len_app']; exact LINE_m (by show 0 + _ ≤ _; omega), ?_⟩
  rw [empty_app]
  repeat infer_instance
  refine fmt_num (by omega) (by omega) ?_
  repeat infer_instance
  refine ⟨by simp only [len_app']; exact LINE_m (by omega), ?_⟩
  repeat infer_instance
  refine ⟨by simp only [len_app']; exact LINE_m (by omega), ?_⟩
  repeat infer_instance
  exact ⟨rfl, rfl⟩
theorem stock_eq [Has P "Stock.__eq__" c_StockD_eqD] {rows rows2 : List Row} (hn : 1 ≤ n) : callF P n "Stock.__eq__" [stockD rows, stockD rows2] S = .ok (.bl (sheetT clS rows == sheetT clS rows2)) S := by
  obtain ⟨n, rfl⟩ : ∃ k, n = k + 1 := ⟨n - 1, by omega⟩
  have hk : clsKnown P (stockD rows2) S = true := by simp [clsKnown, classOf, stockD, HasC.cl]
  have ht : anyTy (stockD rows2) S [.own "Stock"] = some true := rfl
  refine WC.eq (WC.run rfl (by ac_rfl) ?_)
  unfold c_StockD_eqD
  repeat infer_instance
  unfold stockD
  repeat infer_instance
  exact ⟨rfl, rfl⟩
theorem stock_ne [Has P "Stock.__eq__" c_StockD_eqD] {rows : List Row} {y : D} (hn : 1 ≤ n) (hk : clsKnown P y S = true) (ht : anyTy y S [.own "Stock"] = some false) : callF P n "Stock.__eq__" [stockD rows, y] S = .ok (.bl false) S := by
  obtain ⟨n, rfl⟩ : ∃ k, n = k + 1 := ⟨n - 1, by omega⟩
  refine WC.eq (WC.run rfl (by ac_rfl) ?_)
  unfold c_StockD_eqD
  repeat infer_instance
  exact ⟨rfl, rfl⟩
section
variable {rows : List Row} {Q : D → Store → Prop} {X : QX}
theorem stock_aT [Has P "Stock.text" c_Stock_text] (hn : 1 ≤ n) (q : Q (.str (sheetT clS rows)) S) : WA P (callF P n) "text" (stockD rows) S Q X := .prop HasC.cl rfl (.of_eq (stock_text hn) q)
theorem stock_aK [Has P "Stock.kinds" c_Stock_kinds] (hn : 1 ≤ n) (hl : rows.length ≤ 6) (q : Q (.tup (rows.map fun r => .str r.1)) S) : WA P (callF P n) "kinds" (stockD rows) S Q X := .prop HasC.cl rfl (.of_eq (stock_kinds hn hl) q)
theorem stock_aC [Has P "Stock.charges" c_Stock_charges] (hn : 1 ≤ n) (hl : rows.length ≤ 6) (q : Q (.tup (rows.map fun r => .int r.2.1)) S) : WA P (callF P n) "charges" (stockD rows) S Q X := .prop HasC.cl rfl (.of_eq (stock_charges hn hl) q)
theorem stock_aN [Has P "Stock.counts" c_Stock_counts] (hn : 1 ≤ n) (hl : rows.length ≤ 6) (q : Q (.tup (rows.map fun r => .int r.2.2)) S) : WA P (callF P n) "counts" (stockD rows) S Q X := .prop HasC.cl rfl (.of_eq (stock_counts hn hl) q)
theorem stock_aL {Φ : Calls} (q : Q (.tup (rows.map rowU)) S) : WA P Φ "lines" (stockD rows) S Q X := .fld HasC.cl rfl rfl rfl q
theorem stock_fS : findM P (stockD rows) "__str__" S = some "Stock.__str__" := findM_obj HasC.cl rfl rfl
theorem stock_fR : findM P (stockD rows) "__repr__" S = some "Stock.__repr__" := findM_obj HasC.cl rfl rfl
theorem stock_fE {y : D} {ng : Bool} (h : tyKnown P y S = true) : eqM P ng (stockD rows) y S = some "Stock.__eq__" := by
  have h1 : findM P (stockD rows) "__eq__" S = some "Stock.__eq__" := findM_obj HasC.cl rfl rfl
  have h2 : flagOf P (stockD rows) S "eq" = true := by simp [flagOf, classOf, stockD, HasC.cl, k_Stock]
  have h3 : flagOf P (stockD rows) S "ne" = true := by simp [flagOf, classOf, stockD, HasC.cl, k_Stock]
  unfold eqM
  rw [h, h1, h2, h3]
  cases ng <;> rfl
theorem stock_oS {Q : String → Prop} (q : Q "Stock.__str__") : WO (findM P (stockD rows) "__str__" S) Q := .mk' stock_fS q
theorem stock_oR {Q : String → Prop} (q : Q "Stock.__repr__") : WO (findM P (stockD rows) "__repr__" S) Q := .mk' stock_fR q
theorem stock_oE {Q : String → Prop} {y : D} {ng : Bool} (h : tyKnown P y S = true) (q : Q "Stock.__eq__") : WO (eqM P ng (stockD rows) y S) Q := .mk' (stock_fE h) q
theorem stock_fB : flagOf P (stockD rows) S "tru" = true := by simp [flagOf, classOf, stockD, HasC.cl, k_Stock]
theorem stock_tB {Q : Prop} (q : Q) : flagOf P (stockD rows) S "tru" = true ∧ Q := ⟨stock_fB, q⟩
theorem stock_cK : clsKnown P (stockD rows) S = true := by simp [clsKnown, classOf, stockD, HasC.cl]
theorem stock_tK : tyKnown P (stockD rows) S = true := by simp [tyKnown, stock_cK, isTy, stockD]; exact stock_cK
end
end

section
variable {P : Prog} {n : Nat} {S : Store}
def progD (rows : List Row) : D := .obj "Programme" ["wording", "lines"] [.str (sheetT usS rows), .tup (rows.map rowU)]
theorem progD_plain (rows : List Row) : (progD rows).plain = true := by
  have := rowU_plain rows
  simp [progD, D.plain, D.plains] at this ⊢; exact this
variable [HasC P "Programme" k_Programme]
section
variable [Has P "is_name" c_is_name] [HasF P "is_name"] [HasG P "MOST_LETTERS" (.int 8)] [HasG P "LETTERS" (.str (nmS "abcdefghijklmnopqrstuvwxyz"))]
variable [Has P "number_in" c_number_in] [HasF P "number_in"] [HasG P "MOST_FIGURES" (.int 60)] [HasG P "FIGURES" (.str (nmS "0123456789"))]
variable [Has P "rows_in" c_rows_in] [HasF P "rows_in"] [HasG P "MOST_USES" (.int 6)] [HasG P "MOST_MINUTES" (.int MM)] [HasG P "MOST_CELLS" (.int MC)]
variable [Has P "Programme.__init__" c_ProgrammeD_initD]
theorem prog_init {rows : List Row} (hS : Stay S) (hn : 3 ≤ n) (h : Rows MC MM rows) :
    WC (callF P n) "Programme.__init__" [.own S.length, .str (sheetT usS rows)] (S ++ [.ins "Programme" []]) (fun x st' => x = .non ∧ st' = S ++ [.ins "Programme" [("wording", .str (sheetT usS rows)), ("lines", .tup (rows.map rowU))]]) nox := by
  obtain ⟨n, rfl⟩ : ∃ k, n = k + 1 := ⟨n - 1, by omega⟩
  refine WC.run rfl (by ac_rfl) ?_
  unfold c_ProgrammeD_initD
  repeat infer_instance
  refine WC.of_eq (rows_in_e (hS.add rfl) (by omega) us_ok h) ?_
  repeat infer_instance
  exact ⟨rfl, rfl⟩
theorem prog_new {rows : List Row} {Q : D → Store → Prop} {X : QX} (hS : Stay S) (hn : 3 ≤ n) (h : Rows MC MM rows) (q : Q (progD rows) S) :
    WN (callF P n) "Programme.__init__" "Programme" false [.str (sheetT usS rows)] S Q X := by
  refine WN.frz ((prog_init hS hn h).mono (fun x st' z => ?_) (fun _ _ _ z => z.elim)) hS
  obtain ⟨rfl, rfl⟩ := z
  refine ⟨_, rfl, rfl, ?_, q⟩
  have := rowU_plain rows
  simp [D.plain, D.plains] at this ⊢; exact this
end
section
variable [Has P "Programme.text" c_Programme_text]
theorem prog_text {rows : List Row} (hn : 1 ≤ n) : callF P n "Programme.text" [progD rows] S = .ok (.str (sheetT usS rows)) S := by
  obtain ⟨n, rfl⟩ : ∃ k, n = k + 1 := ⟨n - 1, by omega⟩
  refine WC.eq (WC.run rfl (by ac_rfl) ?_)
  unfold c_Programme_text progD
  repeat infer_instance
  exact ⟨rfl, rfl⟩
end
theorem prog_col {f : String} {F : FnC} [Has P f F] {g : Row → D} (k : Int) (hF : F = ⟨1, 2, [.ret (.prim .tuple [.lc false [1] (.item (.var 1) (.cst (.int k))) (.var 1) (.attr (.var 0) "lines") []])]⟩)
    (hg : ∀ r : Row, itemF S (rowU r) (.int k) = some (g r)) {rows : List Row} (hn : 1 ≤ n) (hl : rows.length ≤ 6) : callF P n f [progD rows] S = .ok (.tup (rows.map g)) S := by
  obtain ⟨n, rfl⟩ : ∃ k, n = k + 1 := ⟨n - 1, by omega⟩
  subst hF
  refine WC.eq (WC.run rfl (by ac_rfl) ?_)
  unfold progD
  repeat infer_instance
  refine WL.map (h := g) (fun r hr => ?_) (LINE_m (by omega)) ?_
  · repeat infer_instance
    refine WO.mk' (hg r) ?_
    exact ⟨rfl, rfl⟩
  · refine mk_f (by rw [List.length_map]; exact LINE_m (by omega)) ?_
    repeat infer_instance
    exact ⟨rfl, rfl⟩
theorem prog_uses [Has P "Programme.uses" c_Programme_uses] {rows : List Row} (hn : 1 ≤ n) (hl : rows.length ≤ 6) : callF P n "Programme.uses" [progD rows] S = .ok (.tup (rows.map fun r => .str r.1)) S := prog_col 0 rfl (fun _ => rfl) hn hl
theorem prog_cells [Has P "Programme.cells" c_Programme_cells] {rows : List Row} (hn : 1 ≤ n) (hl : rows.length ≤ 6) : callF P n "Programme.cells" [progD rows] S = .ok (.tup (rows.map fun r => .int r.2.1)) S := prog_col 1 rfl (fun _ => rfl) hn hl
theorem prog_minutes [Has P "Programme.minutes" c_Programme_minutes] {rows : List Row} (hn : 1 ≤ n) (hl : rows.length ≤ 6) : callF P n "Programme.minutes" [progD rows] S = .ok (.tup (rows.map fun r => .int r.2.2)) S := prog_col 2 rfl (fun _ => rfl) hn hl
def progR (n : Int) : Str := nmS "Programme of " ++ numT n ++ nmS " uses"
theorem prog_str [Has P "Programme.__str__" c_ProgrammeD_strD] {rows : List Row} (hn : 1 ≤ n) : callF P n "Programme.__str__" [progD rows] S = .ok (.str (sheetT usS rows)) S := by
  obtain ⟨n, rfl⟩ : ∃ k, n = k + 1 := ⟨n - 1, by omega⟩
  refine WC.eq (WC.run rfl (by ac_rfl) ?_)
  unfold c_ProgrammeD_strD progD
  repeat infer_instance
  exact ⟨rfl, rfl⟩
theorem prog_repr [Has P "Programme.__repr__" c_ProgrammeD_reprD] {rows : List Row} (hn : 1 ≤ n) (hl : rows.length ≤ 6) : callF P n "Programme.__repr__" [progD rows] S = .ok (.str (progR rows.length)) S := by
  obtain ⟨n, rfl⟩ : ∃ k, n = k + 1 := ⟨n - 1, by omega⟩
  have h1 : (nmS "Programme of ").length ≤ 20 := by decide
  have h2 : (nmS " uses").length ≤ 20 := by decide
  have h3 := numT_len (i := rows.length) (by omega) (by omega)
  refine WC.eq (WC.run rfl (by ac_rfl) ?_)
  unfold c_ProgrammeD_reprD progD
  repeat infer_instance
  refine ⟨by rw [len_app']; exact LINE_m (by show 0 + _ ≤ _; omega), ?_⟩
  rw [empty_app]
  repeat infer_instance
  refine fmt_num (by omega) (by omega) ?_
  repeat infer_instance
  refine ⟨by simp only [len_app']; exact LINE_m (by omega), ?_⟩
  repeat infer_instance
  refine ⟨by simp only [len_app']; exact LINE_m (by omega), ?_⟩
  repeat infer_instance
  exact ⟨rfl, rfl⟩
theorem prog_eq [Has P "Programme.__eq__" c_ProgrammeD_eqD] {rows rows2 : List Row} (hn : 1 ≤ n) : callF P n "Programme.__eq__" [progD rows, progD rows2] S = .ok (.bl (sheetT usS rows == sheetT usS rows2)) S := by
  obtain ⟨n, rfl⟩ : ∃ k, n = k + 1 := ⟨n - 1, by omega⟩
  have hk : clsKnown P (progD rows2) S = true := by simp [clsKnown, classOf, progD, HasC.cl]
  have ht : anyTy (progD rows2) S [.own "Programme"] = some true := rfl
  refine WC.eq (WC.run rfl (by ac_rfl) ?_)
  unfold c_ProgrammeD_eqD
  repeat infer_instance
  unfold progD
  repeat infer_instance
  exact ⟨rfl, rfl⟩
theorem prog_ne [Has P "Programme.__eq__" c_ProgrammeD_eqD] {rows : List Row} {y : D} (hn : 1 ≤ n) (hk : clsKnown P y S = true) (ht : anyTy y S [.own "Programme"] = some false) : callF P n "Programme.__eq__" [progD rows, y] S = .ok (.bl false) S := by
  obtain ⟨n, rfl⟩ : ∃ k, n = k + 1 := ⟨n - 1, by omega⟩
  refine WC.eq (WC.run rfl (by ac_rfl) ?_)
  unfold c_ProgrammeD_eqD
  repeat infer_instance
  exact ⟨rfl, rfl⟩
section
variable {rows : List Row} {Q : D → Store → Prop} {X : QX}
theorem prog_aT [Has P "Programme.text" c_Programme_text] (hn : 1 ≤ n) (q : Q (.str (sheetT usS rows)) S) : WA P (callF P n) "text" (progD rows) S Q X := .prop HasC.cl rfl (.of_eq (prog_text hn) q)
theorem prog_aK [Has P "Programme.uses" c_Programme_uses] (hn : 1 ≤ n) (hl : rows.length ≤ 6) (q : Q (.tup (rows.map fun r => .str r.1)) S) : WA P (callF P n) "uses" (progD rows) S Q X := .prop HasC.cl rfl (.of_eq (prog_uses hn hl) q)
theorem prog_aC [Has P "Programme.cells" c_Programme_cells] (hn : 1 ≤ n) (hl : rows.length ≤ 6) (q : Q (.tup (rows.map fun r => .int r.2.1)) S) : WA P (callF P n) "cells" (progD rows) S Q X := .prop HasC.cl rfl (.of_eq (prog_cells hn hl) q)
theorem prog_aN [Has P "Programme.minutes" c_Programme_minutes] (hn : 1 ≤ n) (hl : rows.length ≤ 6) (q : Q (.tup (rows.map fun r => .int r.2.2)) S) : WA P (callF P n) "minutes" (progD rows) S Q X := .prop HasC.cl rfl (.of_eq (prog_minutes hn hl) q)
theorem prog_aL {Φ : Calls} (q : Q (.tup (rows.map rowU)) S) : WA P Φ "lines" (progD rows) S Q X := .fld HasC.cl rfl rfl rfl q
theorem prog_fS : findM P (progD rows) "__str__" S = some "Programme.__str__" := findM_obj HasC.cl rfl rfl
theorem prog_fR : findM P (progD rows) "__repr__" S = some "Programme.__repr__" := findM_obj HasC.cl rfl rfl
theorem prog_fE {y : D} {ng : Bool} (h : tyKnown P y S = true) : eqM P ng (progD rows) y S = some "Programme.__eq__" := by
  have h1 : findM P (progD rows) "__eq__" S = some "Programme.__eq__" := findM_obj HasC.cl rfl rfl
  have h2 : flagOf P (progD rows) S "eq" = true := by simp [flagOf, classOf, progD, HasC.cl, k_Programme]
  have h3 : flagOf P (progD rows) S "ne" = true := by simp [flagOf, classOf, progD, HasC.cl, k_Programme]
  unfold eqM
  rw [h, h1, h2, h3]
  cases ng <;> rfl
theorem prog_oS {Q : String → Prop} (q : Q "Programme.__str__") : WO (findM P (progD rows) "__str__" S) Q := .mk' prog_fS q
theorem prog_oR {Q : String → Prop} (q : Q "Programme.__repr__") : WO (findM P (progD rows) "__repr__" S) Q := .mk' prog_fR q
theorem prog_oE {Q : String → Prop} {y : D} {ng : Bool} (h : tyKnown P y S = true) (q : Q "Programme.__eq__") : WO (eqM P ng (progD rows) y S) Q := .mk' (prog_fE h) q
theorem prog_fB : flagOf P (progD rows) S "tru" = true := by simp [flagOf, classOf, progD, HasC.cl, k_Programme]
theorem prog_tB {Q : Prop} (q : Q) : flagOf P (progD rows) S "tru" = true ∧ Q := ⟨prog_fB, q⟩
theorem prog_cK : clsKnown P (progD rows) S = true := by simp [clsKnown, classOf, progD, HasC.cl]
theorem prog_tK : tyKnown P (progD rows) S = true := by simp [tyKnown, prog_cK, isTy, progD]; exact prog_cK
end
end
end MP
end

section
set_option linter.all false
set_option autoImplicit false
set_option maxRecDepth 4000
set_option maxHeartbeats 1000000
open PySem MP MP.C L2 PyProof.Rows TL
local macro_rules | `(tactic| decreasing_trivial_pre_omega) => `(tactic| first | with_reducible assumption | exact bigOk_of (by omega) | omega)
local macro_rules | `(tactic| ac_rfl) => `(tactic| (repeat (first | with_reducible exact GetAt.z | with_reducible apply GetAt.s | with_reducible exact SetAt.z | with_reducible apply SetAt.s | with_reducible exact WipeAt.n | with_reducible apply WipeAt.c | with_reducible exact SetM.n | with_reducible apply SetM.c | with_reducible exact StartAt.z | apply StartAt.a | apply StartAt.p | with_reducible assumption | ((with_reducible apply CellAt.last); (focus ((repeat (first | with_reducible apply LenAt.snoc | with_reducible exact LenAt.base)); done))) | with_reducible apply CellAt.skip | with_reducible apply CellAt.setS | with_reducible apply LenAt.snoc | with_reducible exact LenAt.base | ((with_reducible apply CellSet.last); (focus ((repeat (first | with_reducible apply LenAt.snoc | with_reducible exact LenAt.base)); done))) | with_reducible apply CellSet.skip | with_reducible apply CellSet.setS | with_reducible apply CellSet.base | with_reducible exact LSet.z | with_reducible apply LSet.s)))
local macro_rules | `(tactic| infer_instance) => `(tactic| (first
  | with_reducible apply WSs.cons | with_reducible apply WSs.nil | with_reducible apply WS.set | with_reducible apply WS.ret | with_reducible apply WS.ifS | with_reducible apply WS.expr | with_reducible apply WS.par | with_reducible apply WS.setItem | with_reducible apply WS.setAttr | with_reducible apply WS.retN | with_reducible apply WS.pass | with_reducible apply WS.brk | with_reducible apply WS.cont | with_reducible apply WS.raise | with_reducible apply WS.forS
  | ((with_reducible apply WS.aug); (focus (ac_rfl; done)))
  | ((with_reducible apply WE.var); (focus (ac_rfl; done)))
  | with_reducible apply WE.cst | with_reducible apply WE.bin | with_reducible apply WE.item | with_reducible apply WE.cmp | with_reducible apply WEs.cons | with_reducible apply WEs.nil | with_reducible apply WE.prim
  | ((with_reducible apply WE.call); (focus (first | exact HasF.gl | assumption | rfl | decide)))
  | with_reducible apply WE.andT | with_reducible apply WE.orT | with_reducible apply WE.notT | ((with_reducible apply WE.t); (focus (exact rfl))) | with_reducible apply WE.rng | with_reducible apply WE.enu | with_reducible apply WE.zip | ((with_reducible apply WE.i); (focus (exact rfl)))
  | with_reducible apply WE.andV | with_reducible apply WE.orV | with_reducible apply WE.notV | with_reducible apply WE.ite | with_reducible apply WE.chain | with_reducible apply WE.neg
  | ((with_reducible apply WE.gc); (focus (first | exact HasG.gl | assumption | rfl)))
  | with_reducible apply WE.tup | with_reducible apply WE.lstF | with_reducible apply WE.lstT | with_reducible apply WE.slNS | with_reducible apply WE.slSN | with_reducible apply WE.slSS | with_reducible apply WE.slNN | with_reducible apply WE.meth | ((with_reducible apply WE.callK); (focus (exact rfl))) | ((with_reducible apply WE.new); (focus (first | exact rfl | (rw [HasC.cl]; exact rfl)))) | ((with_reducible apply WE.newK); (focus (first | exact rfl | (rw [HasC.cl]; exact rfl))); (focus (first | exact HasK.kw | exact rfl))) | with_reducible apply WE.ometh | with_reducible apply WE.attr | ((with_reducible apply WE.isi); (focus (first | exact rfl | (simp [tyOk, HasC.cl]; done))))
  | with_reducible apply WE.fmt | with_reducible apply WE.fstr | with_reducible apply WFs.nil | with_reducible apply WFs.cons | with_reducible apply WE.frz | ((with_reducible apply WE.dct0); (focus (ac_rfl; done))) | with_reducible apply WE.oeq | with_reducible apply WE.ostr | with_reducible apply WE.orepr | with_reducible apply WE.obool
  | ((with_reducible apply WE.lc); (focus (ac_rfl; done)))
  | ((with_reducible apply WB.var); (focus (ac_rfl; done)))
  | ((with_reducible apply WB.tup); (focus (exact rfl))) | with_reducible apply WBs.cons | with_reducible apply WBs.nil
  | with_reducible apply exBl | with_reducible apply exInt | with_reducible apply exStr
  | with_reducible refine ⟨_, by (ac_rfl; done), ?_⟩
  | ((with_reducible apply lenLit); (focus (exact rfl)))
  | ((with_reducible apply WO.mul); (focus (decreasing_trivial_pre_omega; done)); (focus (decreasing_trivial_pre_omega; done)))
  | ((with_reducible apply WO.fdiv); (focus (decreasing_trivial_pre_omega; done)); (focus (decreasing_trivial_pre_omega; done)))
  | ((with_reducible apply WO.mod); (focus (decreasing_trivial_pre_omega; done)))
  | ((with_reducible apply WO.p10); (focus (exact rfl))) | ((with_reducible apply WO.storeAttr); (focus (ac_rfl; done)); (focus (exact HasC.cl)); (focus (exact rfl)); (focus (ac_rfl; done)))
  | ((with_reducible apply WA.fld); (focus (exact HasC.cl)); (focus (exact rfl)); (focus (exact rfl)); (focus (exact rfl))) | ((with_reducible apply WA.prop); (focus (exact HasC.cl)); (focus (exact rfl)))
  | with_reducible apply WO.eqI | with_reducible apply WO.neI | with_reducible apply WO.eqS | with_reducible apply WO.neS | with_reducible apply WO.min2 | with_reducible apply WO.max2 | with_reducible apply WO.abs1 | with_reducible apply WO.lenM | with_reducible apply WO.lenTM
  | with_reducible apply WO.sumL | with_reducible apply WO.allL | with_reducible apply WO.anyL | ((with_reducible apply WO.rngN); (focus (omega))) | ((with_reducible apply WO.rngL); (focus (omega)))
  | ((with_reducible apply WO.itemOL); (focus (ac_rfl; done)); (focus (exact rfl)))
  | ((with_reducible apply WO.storeLL); (focus (ac_rfl; done)); (focus (ac_rfl; done)); (focus (ac_rfl; done)))
  | ((with_reducible apply WO.itemD); (focus (ac_rfl; done)); (focus (exact rfl)); (focus (with_reducible assumption))) | ((with_reducible apply WO.inD); (focus (ac_rfl; done)); (focus (exact rfl))) | ((with_reducible apply WO.notinD); (focus (ac_rfl; done)); (focus (exact rfl)))
  | with_reducible apply WO.slM | with_reducible apply WO.slTM
  | with_reducible apply WO.itemC | with_reducible apply WO.itemTC
  | ((fail_if_success (with_reducible apply WO.gMul)); (fail_if_success (with_reducible apply WO.gDiv)); (with_reducible apply WO.mk'); (focus (first | with_reducible assumption | exact rfl)))
  | ((with_reducible apply WO.addS); (focus (first | with_reducible assumption | exact LINE_m (by (try simp only [len_app']); omega))))
  | ((with_reducible apply recvS); (focus (exact rfl))) | ((with_reducible apply recvL); (focus (exact rfl))) | ((with_reducible apply recvO); (focus (ac_rfl; done)); (focus (exact rfl))) | ((with_reducible apply clsK); (focus (first | with_reducible assumption | exact rfl)))
  | ((with_reducible apply appK); (focus (ac_rfl; done)); (focus (first | with_reducible assumption | exact LINE_ml (by (try simp only [List.length_map, List.length_append, List.length_cons, List.length_nil]); omega))); (focus (ac_rfl; done)))
  | ((with_reducible apply WO.storeD); (focus (ac_rfl; done)); (focus (exact rfl)); (focus (first | with_reducible assumption | exact LINE_ml (by (try simp only [List.length_map, List.length_append, List.length_cons, List.length_nil]); omega))); (focus (ac_rfl; done)))
  | ((with_reducible apply brP); (focus (first | with_reducible assumption | exact rfl))) | ((with_reducible apply brN); (focus (first | with_reducible assumption | exact rfl))) | ((with_reducible apply brP'); (focus (first | with_reducible assumption | exact rfl))) | ((with_reducible apply brN'); (focus (first | with_reducible assumption | exact rfl)))
  | ((with_reducible apply WO.lenOM); (focus (ac_rfl; done))) | ((with_reducible apply WO.lenO); (focus (ac_rfl; done))) | ((with_reducible apply WO.tupO); (focus (ac_rfl; done))) | ((with_reducible apply WO.iterO); (focus (ac_rfl; done))) | ((with_reducible apply WZ.lst); (focus (ac_rfl; done)); (focus (ac_rfl; done)))
  | ((with_reducible apply WT.same); (focus ((repeat (first | with_reducible exact LenIs.base | with_reducible apply LenIs.set | ((with_reducible apply LenIs.dr); (focus (with_reducible assumption))))); done)))
  | ((with_reducible apply WT.pre); (focus ((repeat (first | with_reducible apply Pre.snoc | with_reducible exact Pre.refl)); done)); (focus ((repeat (first | with_reducible exact LenIs.base | with_reducible apply LenIs.set | ((with_reducible apply LenIs.dr); (focus (with_reducible assumption))))); done)); (focus (first | with_reducible assumption | exact rfl | exact plain_tup (fun _ => rfl) | exact plain_lst (fun _ => rfl))); (focus (first | with_reducible assumption | exact Dr.stay (by with_reducible assumption) (by with_reducible assumption))))
  | ((with_reducible apply WT.len); (focus ((simp only [List.length_append, List.length_set, List.length_cons, List.length_nil]); done)))
  | ((with_reducible apply WL.map); (focus (intro _ hx; (try have hx' := List.mem_range.mp hx); (repeat infer_instance); (with_reducible exact mapRR))); (focus (first | with_reducible assumption | exact LINE_m (by (try simp only [List.length_map, List.length_append, List.length_cons, List.length_nil, List.length_range]); omega))); ((with_reducible apply mk_f); (focus (first | with_reducible assumption | exact LINE_m (by (try simp only [List.length_map, List.length_append, List.length_cons, List.length_nil, List.length_range]); omega)))))))
namespace MP
section
variable {P : Prog} {n : Nat} {S : Store}
theorem well_w [Has P "_law_well" c__law_well] {ns : List Int} {t : Nat} (hS : Stay S) (hn : 1 ≤ n) (hl : ns.length ≤ 1000) (ht : t ≤ 100) :
    WC (callF P n) "_law_well" [.lst (ns.map .int), .int t] S (fun d S' => d = .own S.length ∧ Stay S' ∧ Wl S' S.length 1000000) nox := by
  obtain ⟨n, rfl⟩ : ∃ k, n = k + 1 := ⟨n - 1, by omega⟩
  refine WC.run rfl (by ac_rfl) ?_
  unfold c__law_well
  refine WSs.cut (fun ρ st => ∃ e : Int, ρ = [some (.lst (ns.map .int)), some (.int t), some (.int e), none, none] ∧ st = S) ?_ ?_
  · repeat infer_instance
    refine brD (fun h => ?_) (fun h => ?_)
    · have hk : t < ns.length := by omega
      repeat infer_instance
      refine WO.itemM (List.getElem?_eq_getElem hk) ?_
      repeat infer_instance
      exact ⟨_, rfl, rfl⟩
    · repeat infer_instance
      exact ⟨_, rfl, rfl⟩
  rintro ρ st ⟨e, rfl, rfl⟩
  repeat infer_instance
  refine WF.inv (fun dn rs ρ st' => ∃ (s : Int) (a : Option D), ρ = [some (.lst (ns.map .int)), some (.int t), some (.int e), some (.int s), a] ∧ s.natAbs < 10 ^ 20 ∧ st' = st) ⟨_, _, rfl, by omega, rfl⟩ (fun _ _ _ _ _ => rfl) ?_ ?_
  · rintro dn x rs ρ st - ⟨s, a, rfl, hs, rfl⟩
    repeat infer_instance
    exact ⟨_, _, rfl, by omega, rfl⟩
  · rintro ρ S ⟨s, a, rfl, hs, rfl⟩
    have fin : ∀ b s : Int, 0 ≤ b → s.natAbs < 10 ^ 30 → WT S.length (.own S.length) (S ++ [.lst [.int b, .int s, .int 0]]) fun S' => D.own S.length = .own S.length ∧ Stay S' ∧ Wl S' S.length 1000000 := fun b s hb hs => by
      have hc : CellAt (S ++ [.lst [.int b, .int s, .int 0]]) S.length (.lst [.int b, .int s, .int 0]) := .last .base
      refine ⟨?_⟩
      rw [trim_dirty (by simp [D.clean])]
      exact ⟨rfl, hS.add rfl, b, s, 0, hc, hb, hs, by omega, by omega⟩
    repeat infer_instance
    refine brD (fun h => ?_) (fun h => ?_)
    · repeat infer_instance
      exact fin _ _ (by omega) (by omega)
    · repeat infer_instance
      exact fin _ _ (by omega) (by omega)
/-- a law that asks each of some wells -/
theorem law_w {F : FnC} (hF : F = ⟨1, 2, [.ret (.prim .all [.lc false [1] (.call "_law_right" [.call "_law_well" [.var 0, .var 1]]) (.var 1) (.rng [.prim .max [.cst (.int 2), .prim .min [.prim .len [.var 0], .cst (.int 4)]]]) []])]⟩) [Has P "law" F] [Has P "_law_well" c__law_well] [HasF P "_law_well"] [HasF P "_law_right"] {k : Nat} (hk : 1 ≤ k)
    (right : ∀ (n : Nat) (S : Store) (w : Nat), k ≤ n → Stay S → Wl S w 1000000 → WC (callF P n) "_law_right" [.own w] S (fun d S' => d = .bl true ∧ Stay S') nox) :
    ∀ ns : List Int, ns.length ≤ 63 → ∃ st, callF P (k + 1) "law" [.lst (ns.map .int)] [] = .ok (.bl true) st := by
  intro ns hl
  suffices H : WC (callF P (k + 1)) "law" [.lst (ns.map .int)] [] (fun d _ => d = .bl true) nox by
    obtain ⟨d, st, e, rfl⟩ := H.ex
    exact ⟨st, e⟩
  subst hF
  refine WC.run rfl (by ac_rfl) ?_
  repeat infer_instance
  have hm : max 2 (min (ns.length : Int) 4) = ((max 2 (min ns.length 4) : Nat) : Int) := by omega
  rw [hm]
  refine WO.rngN (by omega) ?_
  refine WL.inv (fun dn rs acc st => acc = dn.map (fun _ => .bl true) ∧ Stay st) ⟨rfl, .nil⟩ (fun _ _ _ _ _ => rfl) ?_ ?_
  · rintro dn t rs acc st e ⟨rfl, hs⟩
    have ht : t < max 2 (min ns.length 4) := List.mem_range.mp (by rw [e]; simp)
    have hd : dn.length ≤ 100 := by have := congrArg List.length e; simp at this; omega
    refine ⟨by rw [List.length_map]; exact LINE_ml (by omega), ?_⟩
    repeat infer_instance
    refine WIf.nil ⟨fun z => (nomatch z), fun _ => ?_⟩
    repeat infer_instance
    refine (well_w hs (by omega) (by omega) (by omega)).mono ?_
    rintro _ S' ⟨rfl, h1, h2⟩
    repeat infer_instance
    refine (right _ _ _ (Nat.le_refl _) h1 h2).mono ?_
    rintro _ S' ⟨rfl, h1⟩
    exact ⟨by simp, h1⟩
  · rintro acc st ⟨rfl, hs⟩
    refine mk_f (by rw [List.length_map, List.length_range]; exact LINE_m (by omega)) ?_
    repeat infer_instance
    refine ⟨?_⟩
    simp
end
end MP
end

section
set_option linter.all false
set_option autoImplicit false
set_option maxRecDepth 4000
set_option maxHeartbeats 1000000
open PySem MP MP.C L2 PyProof.Rows TL
local macro_rules | `(tactic| decreasing_trivial_pre_omega) => `(tactic| first | with_reducible assumption | exact bigOk_of (by omega) | omega)
local macro_rules | `(tactic| ac_rfl) => `(tactic| (repeat (first | with_reducible exact GetAt.z | with_reducible apply GetAt.s | with_reducible exact SetAt.z | with_reducible apply SetAt.s | with_reducible exact WipeAt.n | with_reducible apply WipeAt.c | with_reducible exact SetM.n | with_reducible apply SetM.c | with_reducible exact StartAt.z | apply StartAt.a | apply StartAt.p | with_reducible assumption | ((with_reducible apply CellAt.last); (focus ((repeat (first | with_reducible apply LenAt.snoc | with_reducible exact LenAt.base)); done))) | with_reducible apply CellAt.skip | with_reducible apply CellAt.setS | with_reducible apply LenAt.snoc | with_reducible exact LenAt.base | ((with_reducible apply CellSet.last); (focus ((repeat (first | with_reducible apply LenAt.snoc | with_reducible exact LenAt.base)); done))) | with_reducible apply CellSet.skip | with_reducible apply CellSet.setS | with_reducible apply CellSet.base | with_reducible exact LSet.z | with_reducible apply LSet.s)))
local macro_rules | `(tactic| infer_instance) => `(tactic| (first
  | with_reducible apply WSs.cons | with_reducible apply WSs.nil | with_reducible apply WS.set | with_reducible apply WS.ret | with_reducible apply WS.ifS | with_reducible apply WS.expr | with_reducible apply WS.par | with_reducible apply WS.setItem | with_reducible apply WS.setAttr | with_reducible apply WS.retN | with_reducible apply WS.pass | with_reducible apply WS.brk | with_reducible apply WS.cont | with_reducible apply WS.raise | with_reducible apply WS.forS
  | ((with_reducible apply WS.aug); (focus (ac_rfl; done)))
  | ((with_reducible apply WE.var); (focus (ac_rfl; done)))
  | with_reducible apply WE.cst | with_reducible apply WE.bin | with_reducible apply WE.item | with_reducible apply WE.cmp | with_reducible apply WEs.cons | with_reducible apply WEs.nil | with_reducible apply WE.prim
  | ((with_reducible apply WE.call); (focus (first | exact HasF.gl | assumption | rfl | decide)))
  | with_reducible apply WE.andT | with_reducible apply WE.orT | with_reducible apply WE.notT | ((with_reducible apply WE.t); (focus (exact rfl))) | with_reducible apply WE.rng | with_reducible apply WE.enu | with_reducible apply WE.zip | ((with_reducible apply WE.i); (focus (exact rfl)))
  | with_reducible apply WE.andV | with_reducible apply WE.orV | with_reducible apply WE.notV | with_reducible apply WE.ite | with_reducible apply WE.chain | with_reducible apply WE.neg
  | ((with_reducible apply WE.gc); (focus (first | exact HasG.gl | assumption | rfl)))
  | with_reducible apply WE.tup | with_reducible apply WE.lstF | with_reducible apply WE.lstT | with_reducible apply WE.slNS | with_reducible apply WE.slSN | with_reducible apply WE.slSS | with_reducible apply WE.slNN | with_reducible apply WE.meth | ((with_reducible apply WE.callK); (focus (exact rfl))) | ((with_reducible apply WE.new); (focus (first | exact rfl | (rw [HasC.cl]; exact rfl)))) | ((with_reducible apply WE.newK); (focus (first | exact rfl | (rw [HasC.cl]; exact rfl))); (focus (first | exact HasK.kw | exact rfl))) | with_reducible apply WE.ometh | with_reducible apply WE.attr | ((with_reducible apply WE.isi); (focus (first | exact rfl | (simp [tyOk, HasC.cl]; done))))
  | with_reducible apply WE.fmt | with_reducible apply WE.fstr | with_reducible apply WFs.nil | with_reducible apply WFs.cons | with_reducible apply WE.frz | ((with_reducible apply WE.dct0); (focus (ac_rfl; done))) | with_reducible apply WE.oeq | with_reducible apply WE.ostr | with_reducible apply WE.orepr | with_reducible apply WE.obool
  | ((with_reducible apply WE.lc); (focus (ac_rfl; done)))
  | ((with_reducible apply WB.var); (focus (ac_rfl; done)))
  | ((with_reducible apply WB.tup); (focus (exact rfl))) | with_reducible apply WBs.cons | with_reducible apply WBs.nil
  | with_reducible apply exBl | with_reducible apply exInt | with_reducible apply exStr
  | with_reducible refine ⟨_, by (ac_rfl; done), ?_⟩
  | ((with_reducible apply lenLit); (focus (exact rfl)))
  | ((with_reducible apply WO.mul); (focus (decreasing_trivial_pre_omega; done)); (focus (decreasing_trivial_pre_omega; done)))
  | ((with_reducible apply WO.fdiv); (focus (decreasing_trivial_pre_omega; done)); (focus (decreasing_trivial_pre_omega; done)))
  | ((with_reducible apply WO.mod); (focus (decreasing_trivial_pre_omega; done)))
  | ((with_reducible apply WO.p10); (focus (exact rfl))) | ((with_reducible apply WO.storeAttr); (focus (ac_rfl; done)); (focus (exact HasC.cl)); (focus (exact rfl)); (focus (ac_rfl; done)))
  | ((with_reducible apply WA.fld); (focus (exact HasC.cl)); (focus (exact rfl)); (focus (exact rfl)); (focus (exact rfl))) | ((with_reducible apply WA.prop); (focus (exact HasC.cl)); (focus (exact rfl)))
  | with_reducible apply WO.eqI | with_reducible apply WO.neI | with_reducible apply WO.eqS | with_reducible apply WO.neS | with_reducible apply WO.min2 | with_reducible apply WO.max2 | with_reducible apply WO.abs1 | with_reducible apply WO.lenM | with_reducible apply WO.lenTM
  | with_reducible apply WO.sumL | with_reducible apply WO.allL | with_reducible apply WO.anyL | ((with_reducible apply WO.rngN); (focus (omega))) | ((with_reducible apply WO.rngL); (focus (omega)))
  | ((with_reducible apply WO.itemOL); (focus (ac_rfl; done)); (focus (exact rfl)))
  | ((with_reducible apply WO.storeLL); (focus (ac_rfl; done)); (focus (ac_rfl; done)); (focus (ac_rfl; done)))
  | ((with_reducible apply WO.itemD); (focus (ac_rfl; done)); (focus (exact rfl)); (focus (with_reducible assumption))) | ((with_reducible apply WO.inD); (focus (ac_rfl; done)); (focus (exact rfl))) | ((with_reducible apply WO.notinD); (focus (ac_rfl; done)); (focus (exact rfl)))
  | with_reducible apply WO.slM | with_reducible apply WO.slTM
  | with_reducible apply WO.itemC | with_reducible apply WO.itemTC
  | ((fail_if_success (with_reducible apply WO.gMul)); (fail_if_success (with_reducible apply WO.gDiv)); (with_reducible apply WO.mk'); (focus (first | with_reducible assumption | exact rfl)))
  | ((with_reducible apply WO.addS); (focus (first | with_reducible assumption | exact LINE_m (by (try simp only [len_app']); omega))))
  | ((with_reducible apply recvS); (focus (exact rfl))) | ((with_reducible apply recvL); (focus (exact rfl))) | ((with_reducible apply recvO); (focus (ac_rfl; done)); (focus (exact rfl))) | ((with_reducible apply clsK); (focus (first | with_reducible assumption | exact rfl)))
  | ((with_reducible apply appK); (focus (ac_rfl; done)); (focus (first | with_reducible assumption | exact LINE_ml (by (try simp only [List.length_map, List.length_append, List.length_cons, List.length_nil]); omega))); (focus (ac_rfl; done)))
  | ((with_reducible apply WO.storeD); (focus (ac_rfl; done)); (focus (exact rfl)); (focus (first | with_reducible assumption | exact LINE_ml (by (try simp only [List.length_map, List.length_append, List.length_cons, List.length_nil]); omega))); (focus (ac_rfl; done)))
  | ((with_reducible apply brP); (focus (first | with_reducible assumption | exact rfl))) | ((with_reducible apply brN); (focus (first | with_reducible assumption | exact rfl))) | ((with_reducible apply brP'); (focus (first | with_reducible assumption | exact rfl))) | ((with_reducible apply brN'); (focus (first | with_reducible assumption | exact rfl)))
  | ((with_reducible apply WO.lenOM); (focus (ac_rfl; done))) | ((with_reducible apply WO.lenO); (focus (ac_rfl; done))) | ((with_reducible apply WO.tupO); (focus (ac_rfl; done))) | ((with_reducible apply WO.iterO); (focus (ac_rfl; done))) | ((with_reducible apply WZ.lst); (focus (ac_rfl; done)); (focus (ac_rfl; done)))
  | ((with_reducible apply WT.same); (focus ((repeat (first | with_reducible exact LenIs.base | with_reducible apply LenIs.set | ((with_reducible apply LenIs.dr); (focus (with_reducible assumption))))); done)))
  | ((with_reducible apply WT.pre); (focus ((repeat (first | with_reducible apply Pre.snoc | with_reducible exact Pre.refl)); done)); (focus ((repeat (first | with_reducible exact LenIs.base | with_reducible apply LenIs.set | ((with_reducible apply LenIs.dr); (focus (with_reducible assumption))))); done)); (focus (first | with_reducible assumption | exact rfl | exact plain_tup (fun _ => rfl) | exact plain_lst (fun _ => rfl))); (focus (first | with_reducible assumption | exact Dr.stay (by with_reducible assumption) (by with_reducible assumption))))
  | ((with_reducible apply WT.len); (focus ((simp only [List.length_append, List.length_set, List.length_cons, List.length_nil]); done)))
  | ((with_reducible apply WL.map); (focus (intro _ hx; (try have hx' := List.mem_range.mp hx); (repeat infer_instance); (with_reducible exact mapRR))); (focus (first | with_reducible assumption | exact LINE_m (by (try simp only [List.length_map, List.length_append, List.length_cons, List.length_nil, List.length_range]); omega))); ((with_reducible apply mk_f); (focus (first | with_reducible assumption | exact LINE_m (by (try simp only [List.length_map, List.length_append, List.length_cons, List.length_nil, List.length_range]); omega)))))))
namespace MP
/-- shows within k signs, e deep -/
structure Sh (d : D) (k e : Nat) : Prop where
  h : ∃ p : PyData, d.py = some p ∧ p.showable = true ∧ p.canLay0 = true ∧ p.depth ≤ e ∧ p.shown.length ≤ k
structure Shs (ds : List D) (k e : Nat) : Prop where
  h : ∃ ps : List PyData, D.pys ds = some ps ∧ PyData.showableAll ps = true ∧ PyData.canLayAll0 ps = true ∧ PyData.depthAll ps ≤ e ∧ ((PyData.shownAll ps).map (·.length)).sum ≤ k * ds.length ∧ ps.length = ds.length
theorem Sh.mono {d : D} {k e k' e' : Nat} (h : Sh d k e) (hk : k ≤ k') (he : e ≤ e') : Sh d k' e' := by
  obtain ⟨p, h1, h2, h3, h4, h5⟩ := h
  exact ⟨p, h1, h2, h3, by omega, by omega⟩
theorem Sh.non : Sh .non 4 0 := ⟨.none, rfl, rfl, rfl, Nat.le_refl _, by decide⟩
theorem Sh.bl (b : Bool) : Sh (.bl b) 5 0 := ⟨.bool b, rfl, rfl, rfl, Nat.le_refl _, by cases b <;> decide⟩
theorem log_ok' {i : Int} (h : i.natAbs < 10 ^ 500) : i.natAbs.log2 < 1920 := by
  by_cases hz : i.natAbs = 0
  · rw [hz]; decide
  · exact (Nat.log2_lt hz).mpr (Nat.lt_trans h (by decide +kernel))
theorem Sh.int {i : Int} {n : Nat} (h0 : 0 < n) (hn : n ≤ 500) (h : i.natAbs < 10 ^ n) : Sh (.int i) (n + 1) 0 := by
  refine ⟨.int i, rfl, ?_, rfl, Nat.le_refl _, ?_⟩
  · simp only [PyData.showable, decide_eq_true_eq]
    exact log_ok' (Nat.lt_of_lt_of_le h (Nat.pow_le_pow_right (by decide) hn))
  · have e := int_text_length_le10 h0 h
    show (Str.ofString (toString i)).length ≤ _
    rw [PySem.ofString_length]; exact e
theorem Sh.str {x : Str} {n : Nat} (ha : Asc x) (hl : x.length ≤ n) : Sh (.str x) (10 * n + 2) 0 := by
  refine ⟨.str x, rfl, rfl, strOk_of ha, Nat.le_refl _, ?_⟩
  have := PySem.StrLaws.reprText_len x fun c hc => Nat.lt_trans (ha c hc) (by decide)
  show (reprText x).length ≤ _
  omega
theorem Shs.of {k e : Nat} : ∀ {ds : List D}, (∀ d ∈ ds, Sh d k e) → Shs ds k e
  | [], _ => ⟨[], rfl, rfl, rfl, Nat.zero_le _, Nat.zero_le _, rfl⟩
  | d :: ds, h => by
    obtain ⟨ps, h1, h2, h3, h4, h5, h6⟩ := Shs.of fun x hx => h x (List.mem_cons_of_mem _ hx)
    obtain ⟨p, g1, g2, g3, g4, g5⟩ := h d List.mem_cons_self
    refine ⟨p :: ps, ?_, ?_, ?_, ?_, ?_, ?_⟩
    · simp [D.pys, g1, h1]
    · simp [PyData.showableAll, g2, h2]
    · simp [PyData.canLayAll0, g3, h3]
    · simp only [PyData.depthAll]; omega
    · simp only [PyData.shownAll, List.map_cons, List.sum_cons, List.length_cons, Nat.mul_add, Nat.mul_one]; omega
    · simp [h6]
theorem Sh.lst {ds : List D} {k e : Nat} (h : Shs ds k e) : Sh (.lst ds) ((k + 2) * ds.length + 3) (e + 1) := by
  obtain ⟨ps, h1, h2, h3, h4, h5, h6⟩ := h
  refine ⟨.list ps, by simp [D.py, h1], ?_, ?_, ?_, ?_⟩
  · simpa [PyData.showable] using h2
  · simpa [PyData.canLay0] using h3
  · simp only [PyData.depth]; omega
  · have := listText_len_le (PyData.shownAll ps)
    have hl : (PyData.shownAll ps).length = ds.length := by rw [PyProof.Rows.shownAll_eq_map, List.length_map, h6]
    rw [hl] at this
    show (listText (PyData.shownAll ps)).length ≤ _
    rw [Nat.add_mul]; omega
theorem Sh.tup {ds : List D} {k e : Nat} (h : Shs ds k e) : Sh (.tup ds) ((k + 2) * ds.length + 3) (e + 1) := by
  obtain ⟨ps, h1, h2, h3, h4, h5, h6⟩ := h
  refine ⟨.tuple ps, by simp [D.py, h1], ?_, ?_, ?_, ?_⟩
  · simpa [PyData.showable] using h2
  · simpa [PyData.canLay0] using h3
  · simp only [PyData.depth]; omega
  · have := tupleText_len_le (PyData.shownAll ps)
    have hl : (PyData.shownAll ps).length = ds.length := by rw [PyProof.Rows.shownAll_eq_map, List.length_map, h6]
    rw [hl] at this
    show (tupleText (PyData.shownAll ps)).length ≤ _
    rw [Nat.add_mul]; omega
theorem Sh.lstM {α : Type} {l : List α} {f : α → D} {k e n : Nat} (h : ∀ x ∈ l, Sh (f x) k e) (hn : l.length ≤ n) : Sh (.lst (l.map f)) ((k + 2) * n + 3) (e + 1) := by
  refine (Sh.lst (Shs.of (k := k) (e := e) ?_)).mono ?_ (Nat.le_refl _)
  · intro d hd
    obtain ⟨x, hx, rfl⟩ := List.mem_map.mp hd
    exact h x hx
  · rw [List.length_map]
    have := Nat.mul_le_mul_left (k + 2) hn; omega
theorem Sh.tupM {α : Type} {l : List α} {f : α → D} {k e n : Nat} (h : ∀ x ∈ l, Sh (f x) k e) (hn : l.length ≤ n) : Sh (.tup (l.map f)) ((k + 2) * n + 3) (e + 1) := by
  refine (Sh.tup (Shs.of (k := k) (e := e) ?_)).mono ?_ (Nat.le_refl _)
  · intro d hd
    obtain ⟨x, hx, rfl⟩ := List.mem_map.mp hd
    exact h x hx
  · rw [List.length_map]
    have := Nat.mul_le_mul_left (k + 2) hn; omega
theorem Sh.shown {d : D} {k e : Nat} (h : Sh d k e) (hs : (match d with | .lst _ => true | .tup _ => true | _ => false) = true) (hk : k ≤ 1000000) (he : e ≤ 64) : ∃ t, shown d = some t := by
  obtain ⟨p, h1, h2, h3, h4, h5⟩ := h
  have hq : isSeqP p = true := by
    cases d <;> simp at hs
    · rw [D.py] at h1
      obtain ⟨ps, _, rfl⟩ := Option.map_eq_some_iff.mp h1
      rfl
    · rw [D.py] at h1
      obtain ⟨ps, _, rfl⟩ := Option.map_eq_some_iff.mp h1
      rfl
  unfold MP.shown
  rw [h1]
  refine ⟨_, if_pos ?_⟩
  simp only [Bool.and_eq_true, decide_eq_true_eq, Bool.not_eq_true']
  exact ⟨⟨⟨⟨hq, h2⟩, PyData.hasDict_of_canLay p h3⟩, by omega⟩, LINE_m (by omega)⟩
theorem Sh.eqF {d : D} {k e : Nat} (h : Sh d k e) (he : e ≤ 64) : eqF d d = some true := by
  obtain ⟨p, h1, h2, h3, h4, h5⟩ := h
  cases d with
  | str s => simp [MP.eqF]
  | _ => simp [MP.eqF, h1, h3, show p.depth ≤ 64 by omega, PySem.SeqAt.eqv_refl p h3]
theorem asc_lit {x : Str} (h : (x.cps.toList.all fun c => decide (c < 128)) = true) : Asc x := fun c hc => by
  have := List.all_eq_true.mp h c hc
  simpa using this
mutual
theorem beq_refl' : ∀ d : D, D.beq d d = true
  | .non => rfl
  | .bl a => by simp [D.beq]
  | .int a => by simp [D.beq]
  | .str a => by simp [D.beq]
  | .tup xs => by simp [D.beq, beqs_refl' xs]
  | .lst xs => by simp [D.beq, beqs_refl' xs]
  | .obj c ns vs => by simp [D.beq, beqs_refl' vs]
  | .own a => by simp [D.beq]
  | .cls a => by simp [D.beq]
theorem beqs_refl' : ∀ xs : List D, D.beqs xs xs = true
  | [] => rfl
  | x :: xs => by simp [D.beqs, beq_refl' x, beqs_refl' xs]
end
theorem guard_own {S : Store} {k : Nat} {ms : List D} (h : CellAt S k (.lst ms)) : guardOk S [.tup [.own k, .lst ms]] = true := by
  simp [guardOk, h.h, beqs_refl']
theorem stay_trim {S : Store} {k : Nat} {d : D} (h : Stay S) (hk : k ≤ S.length) : Stay (trim k d S) := by
  unfold trim
  split
  · rename_i hz
    rw [Bool.and_eq_true] at hz
    unfold Stay
    rw [List.length_take, Nat.min_eq_left hk]
    exact hz.2
  · exact h
theorem at_hd (x : D) (xs : List D) : atF (x :: xs) 0 = some x := atF_nat (j := 0) rfl rfl
section
variable {w : Str} {ma mb : Int}
theorem Drawn.rows {mk : Int} {rows : List Row} (h : Drawn mk ma mb rows) (hk : mk ≤ 6) (ha : ma ≤ 10 ^ 40) (hb : mb ≤ 10 ^ 40) : Rows ma mb rows := by
  refine ⟨fun e => ?_, by have := h.len.2; omega, fun r hr => ⟨?_, ?_, ?_, ?_, ?_⟩, h.nd, fun r hr => (h.nums r hr).2.1, fun r hr => (h.nums r hr).2.2.2⟩
  · have := h.len.1; rw [e] at this; simp at this
  · have : ∀ t ∈ menuS, nameOk t = true := by decide +kernel
    exact this _ (h.names r hr)
  · exact (h.nums r hr).1
  · have := (h.nums r hr).2.1; omega
  · exact (h.nums r hr).2.2.1
  · have := (h.nums r hr).2.2.2; omega
theorem Rows.mono {ma' mb' : Int} {rows : List Row} (h : Rows ma mb rows) (ha : ma ≤ ma') (hb : mb ≤ mb') : Rows ma' mb' rows :=
  ⟨h.ne, h.le, h.good, h.nd, fun r hr => by have := h.a r hr; omega, fun r hr => by have := h.b r hr; omega⟩
theorem Rows.inj {a b : List Row} (hw : nameOk w = true) (ha : Rows ma mb a) (hb : Rows ma mb b) : (sheetT w a == sheetT w b) = decide (a = b) := by
  by_cases e : a = b
  · subst e; simp
  · simp only [e, decide_false, beq_eq_false_iff_ne]
    exact fun h => e (sheet_inj hw ha.ne hb.ne ha.good hb.good h)
def zoe : Row := (nmS "zoe", 1, 1)
theorem zoe_good : Good zoe := ⟨by decide +kernel, by decide, by decide, by decide, by decide⟩
theorem rows_zoe {rows : List Row} (h : Rows ma mb rows) (h1 : 1 ≤ ma) (h2 : 1 ≤ mb) (hn : ∀ r ∈ rows, r.1 ∈ menuS) (hl : rows.length < 6) : Rows ma mb (rows ++ [zoe]) := by
  refine ⟨by simp, by rw [List.length_append]; simp; omega, fun x hx => ?_, ?_, fun x hx => ?_, fun x hx => ?_⟩
  · rcases List.mem_append.mp hx with z | z
    · exact h.good x z
    · rw [List.mem_singleton.mp z]; exact zoe_good
  · rw [List.map_append, List.nodup_append]
    refine ⟨h.nd, by simp, fun a ha b hb e => ?_⟩
    obtain ⟨r, hr, rfl⟩ := List.mem_map.mp ha
    have hb' : b = zoe.1 := by simpa using hb
    have : zoe.1 ∉ menuS := by decide +kernel
    exact this (hb' ▸ e ▸ hn r hr)
  · rcases List.mem_append.mp hx with z | z
    · exact h.a x z
    · rw [List.mem_singleton.mp z]; exact h1
  · rcases List.mem_append.mp hx with z | z
    · exact h.b x z
    · rw [List.mem_singleton.mp z]; exact h2
theorem rows_rot {r : Row} {rest : List Row} (h : Rows ma mb (r :: rest)) : Rows ma mb (rest ++ [r]) := by
  have hm : ∀ x, x ∈ rest ++ [r] → x ∈ r :: rest := fun x hx => by simp at hx ⊢; exact hx.symm
  refine ⟨by simp, by have := h.le; simpa using this, fun x hx => h.good x (hm x hx), ?_, fun x hx => h.a x (hm x hx), fun x hx => h.b x (hm x hx)⟩
  have := h.nd
  rw [List.map_cons, List.nodup_cons] at this
  rw [List.map_append, List.nodup_append]
  refine ⟨this.2, by simp, fun a ha b hb e => ?_⟩
  have hb' : b = r.1 := by simpa using hb
  exact this.1 (hb' ▸ e ▸ ha)
theorem rot_ne {r : Row} {rest : List Row} (h : Rows ma mb (r :: rest)) (hr : rest ≠ []) : rest ++ [r] ≠ r :: rest := fun e => by
  cases rest with
  | nil => exact hr rfl
  | cons x rest =>
    have h1 : x = r := by simp at e; exact e.1
    have := h.nd
    subst h1
    simp at this
end
end MP
end

section
set_option linter.all false
set_option autoImplicit false
set_option maxRecDepth 4000
set_option maxHeartbeats 2000000
open PySem MP MP.C L2 PyProof.Rows TL
local macro_rules | `(tactic| decreasing_trivial_pre_omega) => `(tactic| first | with_reducible assumption | exact bigOk_of (by omega) | omega)
local macro_rules | `(tactic| ac_rfl) => `(tactic| (repeat (first | with_reducible exact GetAt.z | with_reducible apply GetAt.s | with_reducible exact SetAt.z | with_reducible apply SetAt.s | with_reducible exact WipeAt.n | with_reducible apply WipeAt.c | with_reducible exact SetM.n | with_reducible apply SetM.c | with_reducible exact StartAt.z | apply StartAt.a | apply StartAt.p | with_reducible assumption | ((with_reducible apply CellAt.last); (focus ((repeat (first | with_reducible apply LenAt.snoc | with_reducible exact LenAt.base)); done))) | with_reducible apply CellAt.skip | with_reducible apply CellAt.setS | with_reducible apply LenAt.snoc | with_reducible exact LenAt.base | ((with_reducible apply CellSet.last); (focus ((repeat (first | with_reducible apply LenAt.snoc | with_reducible exact LenAt.base)); done))) | with_reducible apply CellSet.skip | with_reducible apply CellSet.setS | with_reducible apply CellSet.base | with_reducible exact LSet.z | with_reducible apply LSet.s)))
local macro_rules | `(tactic| infer_instance) => `(tactic| (first
  | with_reducible apply WSs.cons | with_reducible apply WSs.nil | with_reducible apply WS.set | with_reducible apply WS.ret | with_reducible apply WS.ifS | with_reducible apply WS.expr | with_reducible apply WS.par | with_reducible apply WS.setItem | with_reducible apply WS.setAttr | with_reducible apply WS.retN | with_reducible apply WS.pass | with_reducible apply WS.brk | with_reducible apply WS.cont | with_reducible apply WS.raise | with_reducible apply WS.forS
  | ((with_reducible apply WS.aug); (focus (ac_rfl; done)))
  | ((with_reducible apply WE.var); (focus (ac_rfl; done)))
  | with_reducible apply WE.cst | with_reducible apply WE.bin | with_reducible apply WE.item | with_reducible apply WE.cmp | with_reducible apply WEs.cons | with_reducible apply WEs.nil | with_reducible apply WE.prim
  | ((with_reducible apply WE.call); (focus (first | exact HasF.gl | assumption | rfl | decide)))
  | with_reducible apply WE.andT | with_reducible apply WE.orT | with_reducible apply WE.notT | ((with_reducible apply WE.t); (focus (exact rfl))) | with_reducible apply WE.rng | with_reducible apply WE.enu | with_reducible apply WE.zip | ((with_reducible apply WE.i); (focus (exact rfl)))
  | with_reducible apply WE.andV | with_reducible apply WE.orV | with_reducible apply WE.notV | with_reducible apply WE.ite | with_reducible apply WE.chain | with_reducible apply WE.neg
  | ((with_reducible apply WE.gc); (focus (first | exact HasG.gl | assumption | rfl)))
  | with_reducible apply WE.tup | with_reducible apply WE.lstF | with_reducible apply WE.lstT | with_reducible apply WE.slNS | with_reducible apply WE.slSN | with_reducible apply WE.slSS | with_reducible apply WE.slNN | with_reducible apply WE.meth | ((with_reducible apply WE.callK); (focus (exact rfl))) | ((with_reducible apply WE.new); (focus (first | exact rfl | (rw [HasC.cl]; exact rfl)))) | ((with_reducible apply WE.newK); (focus (first | exact rfl | (rw [HasC.cl]; exact rfl))); (focus (first | exact HasK.kw | exact rfl))) | with_reducible apply WE.ometh | with_reducible apply WE.attr | ((with_reducible apply WE.isi); (focus (first | exact rfl | (simp [tyOk, HasC.cl]; done))))
  | with_reducible apply WE.fmt | with_reducible apply WE.fstr | with_reducible apply WFs.nil | with_reducible apply WFs.cons | with_reducible apply WE.frz | ((with_reducible apply WE.dct0); (focus (ac_rfl; done))) | with_reducible apply WE.oeq | with_reducible apply WE.ostr | with_reducible apply WE.orepr | with_reducible apply WE.obool
  | ((with_reducible apply WE.lc); (focus (ac_rfl; done)))
  | ((with_reducible apply WB.var); (focus (ac_rfl; done)))
  | ((with_reducible apply WB.tup); (focus (exact rfl))) | with_reducible apply WBs.cons | with_reducible apply WBs.nil
  | with_reducible apply exBl | with_reducible apply exInt | with_reducible apply exStr
  | with_reducible refine ⟨_, by (ac_rfl; done), ?_⟩
  | ((with_reducible apply lenLit); (focus (exact rfl)))
  | ((with_reducible apply WO.mul); (focus (decreasing_trivial_pre_omega; done)); (focus (decreasing_trivial_pre_omega; done)))
  | ((with_reducible apply WO.fdiv); (focus (decreasing_trivial_pre_omega; done)); (focus (decreasing_trivial_pre_omega; done)))
  | ((with_reducible apply WO.mod); (focus (decreasing_trivial_pre_omega; done)))
  | ((with_reducible apply WO.p10); (focus (exact rfl))) | ((with_reducible apply WO.storeAttr); (focus (ac_rfl; done)); (focus (exact HasC.cl)); (focus (exact rfl)); (focus (ac_rfl; done)))
  | ((with_reducible apply WA.fld); (focus (exact HasC.cl)); (focus (exact rfl)); (focus (exact rfl)); (focus (exact rfl))) | ((with_reducible apply WA.prop); (focus (exact HasC.cl)); (focus (exact rfl)))
  | with_reducible apply WO.eqI | with_reducible apply WO.neI | with_reducible apply WO.eqS | with_reducible apply WO.neS | with_reducible apply WO.min2 | with_reducible apply WO.max2 | with_reducible apply WO.abs1 | with_reducible apply WO.lenM | with_reducible apply WO.lenTM
  | with_reducible apply WO.sumL | with_reducible apply WO.allL | with_reducible apply WO.anyL | ((with_reducible apply WO.rngN); (focus (omega))) | ((with_reducible apply WO.rngL); (focus (omega)))
  | ((with_reducible apply WO.itemOL); (focus (ac_rfl; done)); (focus (exact rfl)))
  | ((with_reducible apply WO.storeLL); (focus (ac_rfl; done)); (focus (ac_rfl; done)); (focus (ac_rfl; done)))
  | ((with_reducible apply WO.itemD); (focus (ac_rfl; done)); (focus (exact rfl)); (focus (with_reducible assumption))) | ((with_reducible apply WO.inD); (focus (ac_rfl; done)); (focus (exact rfl))) | ((with_reducible apply WO.notinD); (focus (ac_rfl; done)); (focus (exact rfl)))
  | with_reducible apply WO.slM | with_reducible apply WO.slTM
  | with_reducible apply WO.itemC | with_reducible apply WO.itemTC
  | ((fail_if_success (with_reducible apply WO.gMul)); (fail_if_success (with_reducible apply WO.gDiv)); (with_reducible apply WO.mk'); (focus (first | with_reducible assumption | exact rfl)))
  | ((with_reducible apply WO.addS); (focus (first | with_reducible assumption | exact LINE_m (by (try simp only [len_app']); omega))))
  | ((with_reducible apply recvS); (focus (exact rfl))) | ((with_reducible apply recvL); (focus (exact rfl))) | ((with_reducible apply recvO); (focus (ac_rfl; done)); (focus (exact rfl))) | ((with_reducible apply clsK); (focus (first | with_reducible assumption | exact rfl)))
  | ((with_reducible apply appK); (focus (ac_rfl; done)); (focus (first | with_reducible assumption | exact LINE_ml (by (try simp only [List.length_map, List.length_append, List.length_cons, List.length_nil]); omega))); (focus (ac_rfl; done)))
  | ((with_reducible apply WO.storeD); (focus (ac_rfl; done)); (focus (exact rfl)); (focus (first | with_reducible assumption | exact LINE_ml (by (try simp only [List.length_map, List.length_append, List.length_cons, List.length_nil]); omega))); (focus (ac_rfl; done)))
  | ((with_reducible apply brP); (focus (first | with_reducible assumption | exact rfl))) | ((with_reducible apply brN); (focus (first | with_reducible assumption | exact rfl))) | ((with_reducible apply brP'); (focus (first | with_reducible assumption | exact rfl))) | ((with_reducible apply brN'); (focus (first | with_reducible assumption | exact rfl)))
  | ((with_reducible apply WO.lenOM); (focus (ac_rfl; done))) | ((with_reducible apply WO.lenO); (focus (ac_rfl; done))) | ((with_reducible apply WO.tupO); (focus (ac_rfl; done))) | ((with_reducible apply WO.iterO); (focus (ac_rfl; done))) | ((with_reducible apply WZ.lst); (focus (ac_rfl; done)); (focus (ac_rfl; done)))
  | ((with_reducible apply WT.same); (focus ((repeat (first | with_reducible exact LenIs.base | with_reducible apply LenIs.set | ((with_reducible apply LenIs.dr); (focus (with_reducible assumption))))); done)))
  | ((with_reducible apply WT.pre); (focus ((repeat (first | with_reducible apply Pre.snoc | with_reducible exact Pre.refl)); done)); (focus ((repeat (first | with_reducible exact LenIs.base | with_reducible apply LenIs.set | ((with_reducible apply LenIs.dr); (focus (with_reducible assumption))))); done)); (focus (first | with_reducible assumption | exact rfl | exact plain_tup (fun _ => rfl) | exact plain_lst (fun _ => rfl))); (focus (first | with_reducible assumption | exact Dr.stay (by with_reducible assumption) (by with_reducible assumption))))
  | ((with_reducible apply WT.len); (focus ((simp only [List.length_append, List.length_set, List.length_cons, List.length_nil]); done)))
  | ((with_reducible apply WL.map); (focus (intro _ hx; (try have hx' := List.mem_range.mp hx); (repeat infer_instance); (with_reducible exact mapRR))); (focus (first | with_reducible assumption | exact LINE_m (by (try simp only [List.length_map, List.length_append, List.length_cons, List.length_nil, List.length_range]); omega))); ((with_reducible apply mk_f); (focus (first | with_reducible assumption | exact LINE_m (by (try simp only [List.length_map, List.length_append, List.length_cons, List.length_nil, List.length_range]); omega)))))
  | ((with_reducible apply stock_aT); (focus (omega)))
  | ((with_reducible apply stock_aK); (focus (omega)); (focus (first | with_reducible assumption | omega)))
  | ((with_reducible apply stock_aC); (focus (omega)); (focus (first | with_reducible assumption | omega)))
  | ((with_reducible apply stock_aN); (focus (omega)); (focus (first | with_reducible assumption | omega)))
  | with_reducible apply stock_aL
  | with_reducible apply stock_oS
  | with_reducible apply stock_oR
  | ((with_reducible apply stock_oE); (focus (first | exact stock_tK | exact rfl)))
  | with_reducible apply stock_tB
  | ((with_reducible refine WC.of_eq (stock_str ?_) ?_); (focus (omega)))
  | ((with_reducible refine WC.of_eq (stock_repr ?_ ?_) ?_); (focus (omega)); (focus (first | with_reducible assumption | omega)))
  | ((with_reducible refine WC.of_eq (stock_eq ?_) ?_); (focus (omega)))
  | ((with_reducible refine WC.of_eq (stock_ne ?_ ?_ ?_) ?_); (focus (omega)); (focus (exact rfl)); (focus (exact rfl)))
  | ((with_reducible apply prog_aT); (focus (omega)))
  | ((with_reducible apply prog_aK); (focus (omega)); (focus (first | with_reducible assumption | omega)))
  | ((with_reducible apply prog_aC); (focus (omega)); (focus (first | with_reducible assumption | omega)))
  | ((with_reducible apply prog_aN); (focus (omega)); (focus (first | with_reducible assumption | omega)))
  | with_reducible apply prog_aL
  | with_reducible apply prog_oS
  | with_reducible apply prog_oR
  | ((with_reducible apply prog_oE); (focus (first | exact prog_tK | exact rfl)))
  | with_reducible apply prog_tB
  | ((with_reducible refine WC.of_eq (prog_str ?_) ?_); (focus (omega)))
  | ((with_reducible refine WC.of_eq (prog_repr ?_ ?_) ?_); (focus (omega)); (focus (first | with_reducible assumption | omega)))
  | ((with_reducible refine WC.of_eq (prog_eq ?_) ?_); (focus (omega)))
  | ((with_reducible refine WC.of_eq (prog_ne ?_ ?_ ?_) ?_); (focus (omega)); (focus (exact rfl)); (focus (exact rfl)))
  | ((with_reducible apply strN); (focus omega))
  | ((with_reducible apply WO.addL); (focus (first | with_reducible assumption | exact LINE_of rfl | exact LINE_m (by (try simp only [List.length_map, List.length_append, List.length_cons, List.length_nil, List.length_range]); omega))))
  | ((with_reducible apply WO.addT); (focus (first | with_reducible assumption | exact LINE_of rfl | exact LINE_m (by (try simp only [List.length_map, List.length_append, List.length_cons, List.length_nil, List.length_range]); omega))))))
namespace Law_k05
def otherR (r : Row) : Row := (r.1, if r.2.1 < 10 ^ 12 then r.2.1 + 1 else 1, r.2.2)
theorem rows_other {r : Row} {rest : List Row} (h : Rows MC MM (r :: rest)) : Rows MC MM (otherR r :: rest) := by
  have g := h.good r List.mem_cons_self
  have ha := h.a r List.mem_cons_self
  have h1 : 1 ≤ (otherR r).2.1 ∧ (otherR r).2.1 ≤ MM := by
    show 1 ≤ (if r.2.1 < 10 ^ 12 then r.2.1 + 1 else 1) ∧ (if r.2.1 < 10 ^ 12 then r.2.1 + 1 else 1) ≤ MM
    have := g.a
    have hMM : MM = 1000000000000 := rfl
    split <;> omega
  have hMM : MM = 1000000000000 := rfl
  refine ⟨by simp, h.le, fun x hx => ?_, h.nd, fun x hx => ?_, fun x hx => ?_⟩
  · rcases List.mem_cons.mp hx with rfl | hx
    · exact ⟨g.name, h1.1, by have := h1.2; show (otherR r).2.1 ≤ _; omega, g.b, g.b'⟩
    · exact h.good x (List.mem_cons_of_mem _ hx)
  · rcases List.mem_cons.mp hx with rfl | hx
    · exact Int.le_trans h1.2 (by decide)
    · exact h.a x (List.mem_cons_of_mem _ hx)
  · rcases List.mem_cons.mp hx with rfl | hx
    · exact h.b r List.mem_cons_self
    · exact h.b x (List.mem_cons_of_mem _ hx)
theorem other_ne {r : Row} {rest : List Row} (h : Rows MC MM (r :: rest)) : otherR r :: rest ≠ r :: rest := fun e => by
  rw [List.cons.injEq] at e
  have h1 : (if r.2.1 < 10 ^ 12 then r.2.1 + 1 else 1) = r.2.1 := congrArg (fun x : Row => x.2.1) e.1
  have := (h.good r List.mem_cons_self).a
  split at h1 <;> omega
def seen (rows : List Row) : List D := [.str (sheetT usS rows), .tup (rows.map fun r => .str r.1), .tup (rows.map fun r => .int r.2.1), .tup (rows.map fun r => .int r.2.2), .str (sheetT usS rows), .str (progR rows.length)]
theorem seen_sh {rows : List Row} (h : Rows MC MM rows) : ∃ t, shown (.lst (seen rows)) = some t := by
  have hl := h.le
  have hs : Sh (.str (sheetT usS rows)) (10 * 700 + 2) 0 := .str (asc_sheet us_ok h.good) (by have := sheet_len us_ok h.good; omega)
  have hr : Sh (.str (progR rows.length)) (10 * 700 + 2) 0 := .str ((Asc.app (asc_lit (by decide)) (asc_num (by omega))).app (asc_lit (by decide))) (by
    have h1 := numT_len (i := rows.length) (by omega) (by omega)
    have h2 : (nmS "Programme of ").length ≤ 20 := by decide
    have h3 : (nmS " uses").length ≤ 20 := by decide
    simp only [progR, len_app']; omega)
  have k1 : Sh (.tup (rows.map fun r => .str r.1)) ((82 + 2) * 6 + 3) 1 := .tupM (fun r hr => .str (n := 8) (asc_name (h.good r hr).name) (name_len (h.good r hr).name).2) hl
  have k2 : Sh (.tup (rows.map fun r => .int r.2.1)) ((42 + 2) * 6 + 3) 1 := .tupM (fun r hr => .int (n := 41) (by decide) (by decide) (by have := (h.good r hr).a; have := (h.good r hr).a'; omega)) hl
  have k3 : Sh (.tup (rows.map fun r => .int r.2.2)) ((42 + 2) * 6 + 3) 1 := .tupM (fun r hr => .int (n := 41) (by decide) (by decide) (by have := (h.good r hr).b; have := (h.good r hr).b'; omega)) hl
  refine (Sh.lst (k := 7002) (e := 1) (Shs.of fun d hd => ?_)).shown rfl (by simp [seen]) (by decide)
  simp only [seen, List.mem_cons, List.not_mem_nil, or_false] at hd
  rcases hd with rfl | rfl | rfl | rfl | rfl | rfl
  · exact hs.mono (by decide) (by decide)
  · exact k1.mono (by decide) (by decide)
  · exact k2.mono (by decide) (by decide)
  · exact k3.mono (by decide) (by decide)
  · exact hs.mono (by decide) (by decide)
  · exact hr.mono (by decide) (by decide)
section
variable {S : Store} {rows : List Row}
theorem eqm {y : D} {ng : Bool} (h : tyKnown P y S = true) : eqM P ng (progD rows) y S = some "Programme.__eq__" := by
  unfold eqM
  rw [h]
  cases ng <;> rfl
theorem pick_ints {a b x : Int} {d : D} (h : d ∈ [D.int a, .int b]) : ∃ v, d = .int v ∧ (v = a ∨ v = b) := by
  simp only [List.mem_cons, List.not_mem_nil, or_false] at h
  rcases h with rfl | rfl
  · exact ⟨a, rfl, .inl rfl⟩
  · exact ⟨b, rfl, .inr rfl⟩
end
instance : HasK P "Programme.__init__" (1, ["text"], [0]) := ⟨rfl⟩
theorem right_w {n w : Nat} {S : Store} (hn : 6 ≤ n) (hS : Stay S) (hw : Wl S w 1000000) : WC (callF P n) "_law_right" [.own w] S (fun d S' => d = .bl true ∧ Stay S') nox := by
  obtain ⟨n, rfl⟩ : ∃ k, n = k + 1 := ⟨n - 1, by omega⟩
  have : Has P "_law_right" c__law_right := ⟨rfl⟩
  refine WC.run rfl (by ac_rfl) ?_
  unfold c__law_right
  repeat infer_instance
  refine WF.inv (fun dn rs ρ st => ∃ a1 a2 a3 a4 a5 a6 a7 a8 a9 a10 a11, ρ = [some (.own w), a1, a2, a3, a4, a5, a6, a7, a8, a9, a10, a11] ∧ Stay st ∧ Wl st w (1000 * rs.length) ∧ S.length ≤ st.length) ⟨_, _, _, _, _, _, _, _, _, _, _, rfl, hS, hw.less (by simp), Nat.le_refl _⟩ (fun _ _ _ _ _ => rfl) ?_ ?_
  · rintro dn x rs ρ st - ⟨a1, a2, a3, a4, a5, a6, a7, a8, a9, a10, a11, rfl, hs, ww, hle⟩
    rw [List.length_cons, Nat.mul_add] at ww
    repeat infer_instance
    refine (pick_w (m := 1000 * rs.length + 900) (by omega) (ww.less (by omega)) (by decide) (by decide)).mono ?_
    rintro _ S1 ⟨hm, d1, w1⟩
    obtain ⟨mc, rfl, hmc⟩ := pick_ints (x := 0) hm
    repeat infer_instance
    refine (pick_w (m := 1000 * rs.length + 800) (by omega) (w1.less (by omega)) (by decide) (by decide)).mono ?_
    rintro _ S2 ⟨hm, d2, w2⟩
    obtain ⟨mk, rfl, hmk⟩ := pick_ints (x := 0) hm
    repeat infer_instance
    refine (rows_w (f := "_law_stock") rfl (m := 1000 * rs.length + 700) (by omega) (w2.less (by omega)) (by decide) (by decide) (by omega) (by omega) (by omega) (by omega)).mono ?_
    rintro _ S3 ⟨rows, rfl, hd, d3, w3⟩
    have hMM : MM = 1000000000000 := rfl
    have hMC : MC = 10 ^ 30 := rfl
    have hR : Rows MC MM rows := (hd.rows (by decide) (by omega) (by omega)).mono (by omega) (by omega)
    have hs3 : Stay S3 := d3.stay (d2.stay (d1.stay hs))
    have hl3 : S.length ≤ S3.length := by rw [d3.len, d2.len, d1.len]; exact hle
    have hnm := hd.names
    obtain ⟨r, rest, rfl⟩ : ∃ r rest, rows = r :: rest := by
      cases rows with
      | nil => exact absurd rfl hR.ne
      | cons r rest => exact ⟨r, rest, rfl⟩
    clear hd d1 d2 d3 w1 w2 hs hle
    have hR6 := hR.le
    have hrl : rest.length ≤ 5 := by simpa using hR6
    repeat infer_instance
    refine WC.of_eq (sheet_e rfl (by omega) us_ok (by omega) hR.good) ?_
    repeat infer_instance
    refine prog_new hs3 (by omega) hR ?_
    repeat infer_instance
    refine prog_new hs3 (by omega) hR ?_
    repeat infer_instance
    obtain ⟨t, ht⟩ := seen_sh hR
    refine WO.repr ht ?_
    have hb1 : (nmS "Programme of ").length ≤ 20 := by decide
    have hb2 : (nmS " uses").length ≤ 20 := by decide
    have hb3 := numT_len (i := ((r :: rest).length : Nat)) (by omega) (by omega)
    repeat infer_instance
    refine WO.repr ht ?_
    have htt : (!(t == t)) = false := by simp
    have hE1 : (!(sheetT usS (r :: rest) == sheetT usS (r :: rest)) != false) = false := by simp
    have hE2 : ((sheetT usS (r :: rest) == sheetT usS (r :: rest)) != true) = false := by simp
    repeat infer_instance
    refine brI (i := r.2.1 + 1) (j := 1) (fun h => ?_) (fun h => ?_) ?_
    · repeat infer_instance
      exact ⟨rfl, rfl⟩
    · repeat infer_instance
      exact ⟨rfl, rfl⟩
    repeat infer_instance
    rw [cutF_tl]
    repeat infer_instance
    have hO := rows_other hR
    refine WC.of_eq (sheet_e (rows := otherR r :: rest) rfl (by omega) us_ok (Nat.le_trans hO.le (by decide)) hO.good) ?_
    repeat infer_instance
    refine prog_new hs3 (by omega) hO ?_
    -- the mates
    repeat infer_instance
    refine brS (fun T => ∃ vs : List (List Row), T = S3 ++ [.lst (vs.map progD)] ∧ vs.length ≤ 2 ∧ ∀ v ∈ vs, Rows MC MM v ∧ v ≠ r :: rest) (fun h6 => ?_) (fun h6 => ?_) ?_
    · have hZ := rows_zoe hR (by decide) (by decide) hnm (by omega)
      have hs4 : Stay (S3 ++ [.lst [progD (otherR r :: rest)]]) := hs3.add (by simp [Cell.plain, D.plains, progD_plain])
      repeat infer_instance
      rw [show List.map rowD (r :: rest) ++ [D.lst [D.str (nmS "zoe"), .int 1, .int 1]] = ((r :: rest) ++ [zoe]).map rowD by simp [rowD, zoe]]
      refine WC.of_eq (sheet_e (rows := (r :: rest) ++ [zoe]) rfl (by omega) us_ok (Nat.le_trans hZ.le (by decide)) hZ.good) ?_
      repeat infer_instance
      refine prog_new hs4 (by omega) hZ ?_
      repeat infer_instance
      refine ⟨rfl, [otherR r :: rest, (r :: rest) ++ [zoe]], rfl, by simp, fun v hv => ?_⟩
      simp only [List.mem_cons, List.not_mem_nil, or_false] at hv
      rcases hv with rfl | rfl
      · exact ⟨hO, other_ne hR⟩
      · exact ⟨hZ, fun e => by have := congrArg List.length e; simp at this⟩
    · repeat infer_instance
      refine ⟨rfl, [otherR r :: rest], rfl, by simp, fun v hv => ?_⟩
      rw [List.mem_singleton.mp hv]
      exact ⟨hO, other_ne hR⟩
    rintro _ ⟨vs, rfl, hvl, hvs⟩
    repeat infer_instance
    refine brS (fun T => ∃ vs : List (List Row), T = S3 ++ [.lst (vs.map progD)] ∧ ∀ v ∈ vs, Rows MC MM v ∧ v ≠ r :: rest) (fun h1 => ?_) (fun h1 => ?_) ?_
    · have hT := rows_rot hR
      have hs4 : Stay (S3 ++ [.lst (vs.map progD)]) := hs3.add (by rw [Cell.plain]; exact plains_map progD_plain)
      repeat infer_instance
      rw [cutF_tl, cutF_hd]
      repeat infer_instance
      rw [← List.map_append]
      refine WC.of_eq (sheet_e (rows := rest ++ [r]) rfl (by omega) us_ok (Nat.le_trans hT.le (by decide)) hT.good) ?_
      repeat infer_instance
      refine prog_new hs4 (by omega) hT ?_
      repeat infer_instance
      refine ⟨rfl, vs ++ [rest ++ [r]], by simp, fun v hv => ?_⟩
      rcases List.mem_append.mp hv with hv | hv
      · exact hvs v hv
      · rw [List.mem_singleton.mp hv]
        exact ⟨hT, rot_ne hR fun e => by rw [e] at h1; simp at h1⟩
    · repeat infer_instance
      exact ⟨rfl, vs, rfl, hvs⟩
    clear hvs hvl vs
    rintro _ ⟨vs, rfl, hvs⟩
    repeat infer_instance
    refine WF.each (fun a => by ac_rfl) (guard_own (by ac_rfl)) (fun v hv => ?_) (fun a => ?_)
    · obtain ⟨hv1, hv2⟩ := hvs v hv
      have e1 : ((sheetT usS (r :: rest) == sheetT usS v) != false) = false := by rw [Rows.inj us_ok hR hv1]; simp [Ne.symm hv2]
      have e2 : (!(sheetT usS v == sheetT usS (r :: rest)) != true) = false := by rw [Rows.inj us_ok hv1 hR]; simp [hv2]
      repeat infer_instance
      exact ⟨rfl, rfl⟩
    repeat infer_instance
    exact ⟨_, _, _, _, _, _, _, _, _, _, _, rfl, hs3.add (by rw [Cell.plain]; exact plains_map progD_plain), (w3.less (by omega)).snoc, by rw [List.length_append]; omega⟩
  · rintro ρ st ⟨a1, a2, a3, a4, a5, a6, a7, a8, a9, a10, a11, rfl, hs, ww, hle⟩
    repeat infer_instance
    exact ⟨rfl, stay_trim hs hle⟩
def depth : Nat := 7
theorem law_ok : ∀ ns : List Int, ns.length ≤ 63 → ∃ st, callF P depth "law" [.lst (ns.map .int)] [] = .ok (.bl true) st := by
  have : Has P "law" c_law := ⟨rfl⟩
  have : HasF P "_law_right" := ⟨rfl⟩
  exact law_w (F := c_law) rfl (k := 6) (by decide) fun n S w hn hS hw => right_w hn hS hw
end Law_k05
end

open PySem PySem.W PyProof.Rows
set_option maxRecDepth 100000 in
set_option maxHeartbeats 0 in
theorem PySem.Challenge.cw_cellturns_k05_programmes_made_holds : PySem.Challenge.rw_cellturns_k05_programmes_made.Holds := by
  w_on; o_law; k_head; (case hw => w_witness2)
  k_fill
  refine MP.walk_by (l := PySem.Challenge.rw_cellturns_k05_programmes_made) (n := 63) (m := Law_k05.depth) (P := Law_k05.P) (f := "law") (Fc := Law_k05.c_law) rfl (by decide) rfl ⟨rfl, by decide, by decide⟩ rfl rfl (fun w h Y => PySem.W.kIn_of Y) ?F Law_k05.law_ok
  case F =>
    intro w mg fa h KX G hmg
    refine' Law_k05.all_mk KX G hmg ?a__wall ?l__wall ?c__wall ?k__wall ?a_is_name ?l_is_name ?c_is_name ?k_is_name ?a_number_in ?l_number_in ?c_number_in ?k_number_in ?a_rows_in ?l_rows_in ?c_rows_in ?k_rows_in ?a_text_of ?l_text_of ?c_text_of ?k_text_of ?a_check_known ?l_check_known ?c_check_known ?k_check_known ?a__law_well ?l__law_well ?c__law_well ?k__law_well ?a__law_dip ?l__law_dip ?c__law_dip ?k__law_dip ?a__law_pick ?l__law_pick ?c__law_pick ?k__law_pick ?a__law_terms ?l__law_terms ?c__law_terms ?k__law_terms ?a__law_up ?l__law_up ?c__law_up ?k__law_up ?a__law_stock ?l__law_stock ?c__law_stock ?k__law_stock ?a__law_sheet ?l__law_sheet ?c__law_sheet ?k__law_sheet ?a__law_right ?l__law_right ?c__law_right ?k__law_right ?a_law ?l_law ?c_law ?k_law ?a_Programme ?pg_Programme ?hd_Programme ?po_Programme ?sa_Programme ?mk_Programme ?kc_Programme ?cl_Programme ?mo_Programme ?x1_Programme_NoneType ?x2_Programme_NoneType ?nf_Programme_NoneType ?x1_Programme_bool ?x2_Programme_bool ?nf_Programme_bool ?x1_Programme_int ?x2_Programme_int ?nf_Programme_int ?x1_Programme_str ?x2_Programme_str ?nf_Programme_str ?x1_Programme_list ?x2_Programme_list ?nf_Programme_list ?x1_Programme_tuple ?x2_Programme_tuple ?nf_Programme_tuple ?x1_Programme_dict ?x2_Programme_dict ?nf_Programme_dict ?xc_Programme_Programme ?nc_Programme_Programme ?ne_Programme ?tb_Programme ?tl_Programme ?a_ProgrammeD_initD ?i_ProgrammeD_initD ?l_ProgrammeD_initD ?c_ProgrammeD_initD ?k_ProgrammeD_initD ?a_Programme_put ?i_Programme_put ?l_Programme_put ?c_Programme_put ?k_Programme_put ?a_Programme_without ?i_Programme_without ?l_Programme_without ?c_Programme_without ?k_Programme_without ?a_ProgrammeD_eqD ?i_ProgrammeD_eqD ?l_ProgrammeD_eqD ?c_ProgrammeD_eqD ?k_ProgrammeD_eqD ?a_ProgrammeD_strD ?i_ProgrammeD_strD ?l_ProgrammeD_strD ?c_ProgrammeD_strD ?k_ProgrammeD_strD ?a_ProgrammeD_reprD ?i_ProgrammeD_reprD ?l_ProgrammeD_reprD ?c_ProgrammeD_reprD ?k_ProgrammeD_reprD ?a_Programme_text ?g_Programme_text ?t_Programme_text ?r_Programme_text ?l_Programme_text ?c_Programme_text ?k_Programme_text ?a_Programme_uses ?g_Programme_uses ?t_Programme_uses ?r_Programme_uses ?l_Programme_uses ?c_Programme_uses ?k_Programme_uses ?a_Programme_cells ?g_Programme_cells ?t_Programme_cells ?r_Programme_cells ?l_Programme_cells ?c_Programme_cells ?k_Programme_cells ?a_Programme_minutes ?g_Programme_minutes ?t_Programme_minutes ?r_Programme_minutes ?l_Programme_minutes ?c_Programme_minutes ?k_Programme_minutes ?n_Programme_lines ?n_Programme_wording ?oc1 ?oc2 ?b_len ?b_sum ?b_min ?b_max ?b_abs ?b_all ?b_any ?b_int ?b_bool ?b_tuple ?b_list ?b_sorted ?b_str ?b_repr ?b_divmod ?b_set ?b_dict ?b_range ?b_enumerate ?b_zip ?b_isinstance ?g_MOST_USES ?g_MOST_MINUTES ?g_MOST_CELLS ?g_LETTERS ?g_FIGURES ?g_MOST_LETTERS ?g_MOST_FIGURES
    (case a__wall => k_is); (case l__wall => k_is); (case c__wall => k_is); (case k__wall => k_is); (case a_is_name => k_is); (case l_is_name => k_is)
    (case c_is_name => k_is); (case k_is_name => k_is); (case a_number_in => k_is); (case l_number_in => k_is); (case c_number_in => k_is); (case k_number_in => k_is)
    (case a_rows_in => k_is); (case l_rows_in => k_is); (case c_rows_in => k_is); (case k_rows_in => k_is); (case a_text_of => k_is); (case l_text_of => k_is)
    (case c_text_of => k_is); (case k_text_of => k_is); (case a_check_known => k_is); (case l_check_known => k_is); (case c_check_known => k_is); (case k_check_known => k_is)
    (case a__law_well => k_is); (case l__law_well => k_is); (case c__law_well => k_is); (case k__law_well => k_is); (case a__law_dip => k_is); (case l__law_dip => k_is)
    (case c__law_dip => k_is); (case k__law_dip => k_is); (case a__law_pick => k_is); (case l__law_pick => k_is); (case c__law_pick => k_is); (case k__law_pick => k_is)
    (case a__law_terms => k_is); (case l__law_terms => k_is); (case c__law_terms => k_is); (case k__law_terms => k_is); (case a__law_up => k_is); (case l__law_up => k_is)
    (case c__law_up => k_is); (case k__law_up => k_is); (case a__law_stock => k_is); (case l__law_stock => k_is); (case c__law_stock => k_is); (case k__law_stock => k_is)
    (case a__law_sheet => k_is); (case l__law_sheet => k_is); (case c__law_sheet => k_is); (case k__law_sheet => k_is); (case a__law_right => k_is); (case l__law_right => k_is)
    (case c__law_right => k_is); (case k__law_right => k_is); (case a_law => k_is); (case l_law => k_is); (case c_law => k_is); (case k_law => k_is)
    (case a_Programme => k_is); (case pg_Programme => k_is); (case hd_Programme => k_is); (case po_Programme => k_is); (case sa_Programme => k_is); (case mk_Programme => k_is)
    (case kc_Programme => k_is); (case cl_Programme => k_is); (case mo_Programme => k_is); (case x1_Programme_NoneType => kit_is); (case x2_Programme_NoneType => kit_is); (case nf_Programme_NoneType => k_is)
    (case x1_Programme_bool => kit_is); (case x2_Programme_bool => kit_is); (case nf_Programme_bool => k_is); (case x1_Programme_int => kit_is); (case x2_Programme_int => kit_is); (case nf_Programme_int => k_is)
    (case x1_Programme_str => kit_is); (case x2_Programme_str => kit_is); (case nf_Programme_str => k_is); (case x1_Programme_list => kit_is); (case x2_Programme_list => kit_is); (case nf_Programme_list => k_is)
    (case x1_Programme_tuple => kit_is); (case x2_Programme_tuple => kit_is); (case nf_Programme_tuple => k_is); (case x1_Programme_dict => kit_is); (case x2_Programme_dict => kit_is); (case nf_Programme_dict => k_is)
    (case xc_Programme_Programme => kit_is); (case nc_Programme_Programme => k_is); (case ne_Programme => k_is); (case tb_Programme => k_is); (case tl_Programme => k_is); (case a_ProgrammeD_initD => k_is)
    (case i_ProgrammeD_initD => k_is); (case l_ProgrammeD_initD => k_is); (case c_ProgrammeD_initD => k_is); (case k_ProgrammeD_initD => k_is); (case a_Programme_put => k_is); (case i_Programme_put => k_is)
    (case l_Programme_put => k_is); (case c_Programme_put => k_is); (case k_Programme_put => k_is); (case a_Programme_without => k_is); (case i_Programme_without => k_is); (case l_Programme_without => k_is)
    (case c_Programme_without => k_is); (case k_Programme_without => k_is); (case a_ProgrammeD_eqD => k_is); (case i_ProgrammeD_eqD => k_is); (case l_ProgrammeD_eqD => k_is); (case c_ProgrammeD_eqD => k_is)
    (case k_ProgrammeD_eqD => k_is); (case a_ProgrammeD_strD => k_is); (case i_ProgrammeD_strD => k_is); (case l_ProgrammeD_strD => k_is); (case c_ProgrammeD_strD => k_is); (case k_ProgrammeD_strD => k_is)
    (case a_ProgrammeD_reprD => k_is); (case i_ProgrammeD_reprD => k_is); (case l_ProgrammeD_reprD => k_is); (case c_ProgrammeD_reprD => k_is); (case k_ProgrammeD_reprD => k_is); (case a_Programme_text => k_is)
    (case g_Programme_text => k_is); (case t_Programme_text => k_is); (case r_Programme_text => k_is); (case l_Programme_text => k_is); (case c_Programme_text => k_is); (case k_Programme_text => k_is)
    (case a_Programme_uses => k_is); (case g_Programme_uses => k_is); (case t_Programme_uses => k_is); (case r_Programme_uses => k_is); (case l_Programme_uses => k_is); (case c_Programme_uses => k_is)
    (case k_Programme_uses => k_is); (case a_Programme_cells => k_is); (case g_Programme_cells => k_is); (case t_Programme_cells => k_is); (case r_Programme_cells => k_is); (case l_Programme_cells => k_is)
    (case c_Programme_cells => k_is); (case k_Programme_cells => k_is); (case a_Programme_minutes => k_is); (case g_Programme_minutes => k_is); (case t_Programme_minutes => k_is); (case r_Programme_minutes => k_is)
    (case l_Programme_minutes => k_is); (case c_Programme_minutes => k_is); (case k_Programme_minutes => k_is); (case n_Programme_lines => k_is); (case n_Programme_wording => k_is); (case oc1 => k_is)
    (case oc2 => k_is); (case b_len => k_is); (case b_sum => k_is); (case b_min => k_is); (case b_max => k_is); (case b_abs => k_is)
    (case b_all => k_is); (case b_any => k_is); (case b_int => k_is); (case b_bool => k_is); (case b_tuple => k_is); (case b_list => k_is)
    (case b_sorted => k_is); (case b_str => k_is); (case b_repr => k_is); (case b_divmod => k_is); (case b_set => k_is); (case b_dict => k_is)
    (case b_range => k_is); (case b_enumerate => k_is); (case b_zip => k_is); (case b_isinstance => k_is); (case g_MOST_USES => k_is); (case g_MOST_MINUTES => k_is)
    (case g_MOST_CELLS => k_is); (case g_LETTERS => k_is); (case g_FIGURES => k_is); (case g_MOST_LETTERS => k_is); (case g_MOST_FIGURES => k_is)
