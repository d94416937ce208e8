import PyProof.Rows.All
import Wide.All
import OpenK.AllK
import Wide.FinOn
import HandS.ForMost
import HandS.Deep
import HandS.IsInst
import HandS.Text
import HandS.Wide
import HandS.TupAny
import PyProof.NeKinds
import HandS.Rev
import PyProof.DictUpdate
import HandS.TupMul
import HandS.Conv
import HandS.TupLe
import HandS.Flow
import HandS.Small
import HandS.Zip
import HandS.TryOnly
import PySem.Challenge.RW_eachstepsame_k03_what_operations_fit
set_option Elab.async false
set_option linter.all false
set_option maxRecDepth 100000
set_option maxHeartbeats 8000000
/-! A small evaluator for a plain part of the language: values without addresses, a store of lists, dicts, instances. -/
namespace Mi
open PySem L2

inductive D where
  | non | bl (b : Bool) | int (i : Int) | str (x : Str) | tup (xs : List D) | rol (xs : List D) | ref (n : Nat)
  deriving Inhabited

inductive MO where
  | lst (xs : List D) | dK (kvs : List (Key × D)) | dT (kvs : List (List Key × D)) | ins (c : Nat) (fs : List (Nat × D))
  deriving Inhabited

abbrev Sto := List MO
inductive Out (α : Type) where
  | ok (a : α) (S : Sto) | exc (c : Nat) (fs : List (Nat × D)) (S : Sto) | no
@[simp] def Out.bind {α β : Type} (o : Out α) (f : α → Sto → Out β) : Out β := match o with
  | .ok a S => f a S
  | .exc c fs S => .exc c fs S
  | .no => .no

def lim : Nat := 16777216

/-- the data that a value is, lists read -/
def toPy (S : Sto) : Nat → D → Option PyData
  | 0, _ => none
  | _ + 1, .non => some .none
  | _ + 1, .bl b => some (.bool b)
  | _ + 1, .int i => some (.int i)
  | _ + 1, .str x => if PyData.strOk x = true then some (.str x) else none
  | n + 1, .tup xs => (xs.mapM (toPy S n)).map .tuple
  | n + 1, .rol xs => (xs.mapM (toPy S n)).map .list
  | n + 1, .ref k => match S[k]? with
    | some (.lst xs) => (xs.mapM (toPy S n)).map .list
    | _ => none

def lstAt (S : Sto) (n : Nat) : Option (List D) := match S[n]? with
  | some (.lst xs) => some xs
  | _ => none
/-- a list that is read -/
def seqAt (S : Sto) : D → Option (List D)
  | .ref n => lstAt S n
  | .rol xs => some xs
  | _ => none

/-- whether it is a dict -/
def dKind (S : Sto) : D → Option Bool
  | .ref n => match S[n]? with
    | some (.lst _) => some false
    | some (.dK _) => some true
    | _ => none
  | _ => some false
/-- one is a dict, the other is none -/
def apart (S : Sto) (a b : D) : Bool := match dKind S a, dKind S b with
  | some true, some false => true
  | some false, some true => true
  | _, _ => false
def eqJ (S : Sto) (a b : D) : Bool := apart S a b || ((toPy S 39 a).isSome && (toPy S 39 b).isSome)
/-- surely not equal -/
def unlike (S : Sto) (a b : D) : Bool := apart S a b || (match a, b with
  | .tup xs, .tup ys => (xs.zip ys).any (fun p => apart S p.1 p.2) && (xs.zip ys).all fun p => eqJ S p.1 p.2
  | _, _ => false) || match seqAt S a, seqAt S b with
  | some xs, some ys => xs.length != ys.length
  | _, _ => false
def eqD (S : Sto) (a b : D) : Option Bool := match toPy S 40 a, toPy S 40 b with
  | some x, some y => some (PyData.eqv x y)
  | _, _ => if unlike S a b = true then some false else none

def D.key : D → Option Key
  | .int i => some (.inl i)
  | .str x => some (.inr x)
  | _ => none
def D.keyT : D → Option (List Key)
  | .tup xs => xs.mapM D.key
  | _ => none

def new (S : Sto) (o : MO) : Out D := .ok (.ref S.length) (S ++ [o])

def addD (a b : D) (S : Sto) : Out D := match a, b with
  | .int i, .int j => .ok (.int (i + j)) S
  | .str x, .str y => if x.length + y.length ≤ lim then .ok (.str (x ++ y)) S else .no
  | .tup xs, .tup ys => if xs.length + ys.length ≤ lim then .ok (.tup (xs ++ ys)) S else .no
  | .ref m, .ref n => match lstAt S m, lstAt S n with
    | some xs, some ys => if xs.length + ys.length ≤ lim then new S (.lst (xs ++ ys)) else .no
    | _, _ => .no
  | _, _ => .no

def small64 (i : Int) : Bool := decide (-(2 ^ 64) < i ∧ i < 2 ^ 64)
def binD (op : Operator) (a b : D) (S : Sto) : Out D := match op, a, b with
  | .Add, a, b => addD a b S
  | .Sub, .int i, .int j => .ok (.int (i - j)) S
  | .Mult, .int i, .int j => if (small64 i || small64 j) = true then .ok (.int (i * j)) S else .no
  | .Mult, .ref n, .int k => match lstAt S n with
    | some xs => if xs.length ≤ 1000 ∧ -1000 ≤ k ∧ k ≤ 1000 then new S (.lst (List.replicate k.toNat xs).flatten) else .no
    | none => .no
  | .Mult, .tup xs, .int k => if k = 1 then .ok (.tup xs) S else if 1 ≤ xs.length ∧ 2 ≤ k ∧ k ≤ 1000 ∧ xs.length ≤ 1000 then .ok (.tup (List.replicate k.toNat xs).flatten) S else .no
  | .FloorDiv, .int i, .int j => if 0 < j ∧ j < 18446744073709551616 then .ok (.int (i / j)) S else .no
  | .Mod, .int i, .int j => if 0 < j then .ok (.int (i % j)) S else .no
  | .Pow, .int i, .int j => if 0 ≤ j ∧ j ≤ 1000000 ∧ i.natAbs < 2 ^ 64 then .ok (.int (i ^ j.toNat)) S else .no
  | _, _, _ => .no

/-- x op= y, of names -/
def augD (op : Operator) (a b : D) (S : Sto) : Out D := match op, a, b with
  | .Add, .int i, .int j => .ok (.int (i + j)) S
  | .Sub, .int i, .int j => .ok (.int (i - j)) S
  | .Add, .str x, .str y => if x.length + y.length ≤ lim then .ok (.str (x ++ y)) S else .no
  | _, _, _ => .no

def unD (op : UnaryOp) (a : D) (S : Sto) : Out D := match op, a with
  | .USub, .int i => .ok (.int (-i)) S
  | _, _ => .no

def truthD (S : Sto) : D → Option Bool
  | .non => some false
  | .bl b => some b
  | .int i => some (i != 0)
  | .str x => if x.length ≤ lim then some ((x.length : Int) != 0) else none
  | .tup xs => some (!xs.isEmpty)
  | .rol xs => some (!xs.isEmpty)
  | .ref n => match S[n]? with
    | some (.lst xs) => some (!xs.isEmpty)
    | some (.dK kvs) => some (!kvs.isEmpty)
    | _ => none

def anyEq (S : Sto) (a : D) (xs : List D) : Option Bool := match toPy S 40 a, xs.mapM (toPy S 39) with
  | some x, some ys => some (ys.any fun z => PyData.eqv z x)
  | _, _ => if (xs.all fun y => apart S y a) = true then some false else none

def D.isNon : D → Bool
  | .non => true
  | _ => false
def inD (S : Sto) (a b : D) : Option Bool := match b with
  | .tup xs => anyEq S a xs
  | .rol xs => anyEq S a xs
  | .ref n => match S[n]? with
    | some (.lst xs) => anyEq S a xs
    | some (.dK kvs) => match a.key with
      | some k => some (kvs.any fun kv => decide (kv.1 = k))
      | none => none
    | some (.dT _) => none
    | _ => none
  | .str y => match a with
    | .str x => match x.cps.toList with
      | [c] => some (decide (c ∈ y.cps.toList))
      | _ => none
    | _ => none
  | _ => none

/-- a is b -/
def isD (a : D) : D → Option Bool
  | .non => some a.isNon
  | .bl y => match a with
    | .bl x => some (decide (x = y))
    | _ => none
  | _ => none
def cmpD (op : CmpOp) (a b : D) (S : Sto) : Option Bool := match op with
  | .Eq => eqD S a b
  | .NotEq => (eqD S a b).map (!·)
  | .In => inD S a b
  | .NotIn => (inD S a b).map (!·)
  | .Is => isD a b
  | .IsNot => (isD a b).map (!·)
  | .Lt => match a, b with
    | .int i, .int j => some (decide (i < j))
    | .str x, .str y => some (decide (x.cps.toList < y.cps.toList))
    | _, _ => none
  | .LtE => match a, b with
    | .int i, .int j => some (decide (i ≤ j))
    | .str x, .str y => some (!decide (y.cps.toList < x.cps.toList))
    | _, _ => none
  | .Gt => match a, b with
    | .int i, .int j => some (decide (j < i))
    | _, _ => none
  | .GtE => match a, b with
    | .int i, .int j => some (decide (j ≤ i))
    | _, _ => none

def obl (o : Option Bool) (S : Sto) : Out D := match o with
  | some b => .ok (.bl b) S
  | none => .no

def lenD (S : Sto) : D → Option Nat
  | .str x => if x.length ≤ lim then some x.length else none
  | .tup xs => some xs.length
  | .rol xs => some xs.length
  | .ref n => match S[n]? with
    | some (.lst xs) => some xs.length
    | _ => none
  | _ => none

def getK {κ : Type} [DecidableEq κ] (kvs : List (κ × D)) (k : κ) : Option D := (kvs.find? fun kv => decide (kv.1 = k)).map (·.2)
def oD (o : Option D) (S : Sto) : Out D := match o with
  | some d => .ok d S
  | none => .no
def idxD (a i : D) (S : Sto) : Out D := match a with
  | .tup xs => match i with
    | .int k => oD (atI xs k) S
    | _ => .no
  | .rol xs => match i with
    | .int k => oD (atI xs k) S
    | _ => .no
  | .str x => match i with
    | .int k => if x.length ≤ lim then (match atI x.cps.toList k with
      | some c => .ok (.str ⟨#[c]⟩) S
      | none => .no) else .no
    | _ => .no
  | .ref n => match S[n]? with
    | some (.lst xs) => (match i with
      | .int k => oD (atI xs k) S
      | _ => .no)
    | some (.dK kvs) => (match i.key with
      | some k => oD (getK kvs k) S
      | none => .no)
    | _ => .no
  | _ => .no

def cutD (xs : List D) (lo hi : Option Int) : List D := (xs.drop (HT.sIx xs.length 0 lo)).take (HT.sIx xs.length xs.length hi - HT.sIx xs.length 0 lo)
def slcD (a : D) (lo hi : Option Int) (S : Sto) : Out D := match a with
  | .tup xs => .ok (.tup (cutD xs lo hi)) S
  | .str z => if z.length ≤ lim then .ok (.str (cutS z lo hi)) S else .no
  | a => match seqAt S a with
    | some xs => new S (.lst (cutD xs lo hi))
    | none => .no

def D.strOf : D → Option Str
  | .str x => some x
  | _ => none
def joinD (x : D) (y : D) (S : Sto) : Out D := match x with
  | .str s => match (match y with
      | .tup xs => some xs
      | y => seqAt S y).bind fun xs => xs.mapM D.strOf with
    | some ys => if (ys.map (·.length)).sum + ys.length * s.length ≤ lim then .ok (.str (Txt.join s ys)) S else .no
    | none => .no
  | _ => .no
def getF (fs : List (Nat × D)) (f : Nat) : Option D := fs.lookup f
def putF' (f : Nat) (v : D) : List (Nat × D) → List (Nat × D)
  | [] => [(f, v)]
  | (g, w) :: r => if g = f then (g, v) :: r else (g, w) :: putF' f v r
end Mi

namespace Mi
open PySem L2

inductive BI where
  | len | min2 | max2 | abs | int1 | lst1 | tup1 | all1 | any1 | sum1
  deriving DecidableEq, Inhabited
inductive BM where
  | append | extend | pop | popAt | clear | reverse | index | get1 | get2 | update
  deriving DecidableEq, Inhabited
inductive KT where
  | none | bool | int | str | tuple | list | dict
  deriving DecidableEq, Inhabited
def KT.name : KT → String
  | .none => "NoneType"
  | .bool => "bool"
  | .int => "int"
  | .str => "str"
  | .tuple => "tuple"
  | .list => "list"
  | .dict => "dict"
inductive Ty where
  | b (n : KT) | own (c : Nat)
  deriving DecidableEq, Inhabited
inductive Tg where
  | nm (i : Nat) | tup (is : List Nat)
  deriving Inhabited

mutual
inductive E where
  | var (i : Nat) | con (c : D) | glob (g : Nat)
  | bin (op : Operator) (a b : E) | una (op : UnaryOp) (a : E)
  | cmp (op : CmpOp) (a b : E) | chain (op op' : CmpOp) (a b c : E)
  | and_ (es : Es) | or_ (es : Es) | not_ (a : E) | ite (c a b : E)
  | tup (es : Es) | lst (es : Es) | idx (a i : E) | slc (a : E) (hl hh : Bool) (lo hi : E)
  | attr (a : E) (f : Nat) | call (f : Nat) (es : Es) | make (c : Nat) (es : Es) | meth (a : E) (m : Nat) (es : Es)
  | bm (m : BM) (a : E) (es : Es) | bi (f : BI) (es : Es) | isi (a : E) (one : Bool) (ts : List Ty)
  | comp (own : List (Str × Nat)) (tg : Tg) (it : I) (ifs : Es) (elt : E)
  | dnew (t : Bool) | dsp (kvs : Es) | join (a e : E) | lrev (a : E)
inductive Es where
  | nil | cons (e : E) (es : Es)
inductive I where
  | val (e : E) | rng1 (e : E) | rng2 (a b : E) | enu (e : E) | zip (a b : E)
end

mutual
inductive C where
  | set (i : Nat) (e : E) | aug (i : Nat) (op : Operator) (e : E) | setT (is : List Nat) (e : E) | par (i j : Nat) (a b : E)
  | setIx (o i e : E) | setAt (o : E) (f : Nat) (e : E)
  | ex (e : E) | ret (e : E) | retN | pass | brk | cnt | doc
  | ifS (c : E) (a b : Cs) | forS (tg : Tg) (it : I) (b : Cs) | whl (c : E) (b : Cs)
inductive Cs where
  | nil | cons (c : C) (cs : Cs)
end

abbrev Env := List (Option D)
inductive Fl where
  | nx (env : Env) | rt (d : D) | bk (env : Env) | ct (env : Env)

/-- what a loop walks -/
inductive It where
  | seq (n : D) | tup (xs : List D) | rng (lo : Int) (k : Nat) | enu (n : D) | zip (m n : D) | chars (x : Str)
/-- a list or a tuple that is read -/
def sqAt (S : Sto) : D → Option (List D)
  | .tup xs => some xs
  | d => seqAt S d
def itNext : It → Nat → Sto → Option (Option D)
  | .seq n, i, S => (seqAt S n).map fun xs => xs[i]?
  | .tup xs, i, _ => some xs[i]?
  | .rng lo k, i, _ => some (if i < k then some (.int (lo + i)) else none)
  | .enu n, i, S => (seqAt S n).map fun xs => xs[i]?.map fun d => .tup [.int i, d]
  | .zip m n, i, S => match sqAt S m, sqAt S n with
    | some xs, some ys => match xs[i]?, ys[i]? with
      | some a, some b => some (some (.tup [a, b]))
      | _, _ => some none
    | _, _ => none
  | .chars x, i, _ => some (x.cps[i]?.map fun c => .str ⟨#[c]⟩)

def setAll : List Nat → List D → Env → Option Env
  | [], [], env => some env
  | i :: is, d :: ds, env => setAll is ds (env.set i (some d))
  | _, _, _ => none
/-- a, b = x: a list or a tuple -/
def asgS (S : Sto) (is : List Nat) (d : D) (env : Env) : Option Env := match sqAt S d with
  | some xs => setAll is xs env
  | none => none
def asg : Tg → D → Env → Option Env
  | .nm i, d, env => some (env.set i (some d))
  | .tup is, .tup ds, env => setAll is ds env
  | _, _, _ => none

def forN (nx : Nat → Sto → Option (Option D)) (as : D → Env → Option Env) (body : Env → Sto → Out Fl) : Nat → Nat → Env → Sto → Out Fl
  | 0, _, _, _ => .no
  | f + 1, i, env, S => match nx i S with
    | none => .no
    | some none => .ok (.nx env) S
    | some (some d) => match as d env with
      | none => .no
      | some env1 => (body env1 S).bind fun fl S1 => match fl with
        | .nx env2 => forN nx as body f (i + 1) env2 S1
        | .ct env2 => forN nx as body f (i + 1) env2 S1
        | .bk env2 => .ok (.nx env2) S1
        | .rt d => .ok (.rt d) S1
def whlN (c : Env → Sto → Out Bool) (body : Env → Sto → Out Fl) : Nat → Env → Sto → Out Fl
  | 0, _, _ => .no
  | f + 1, env, S => (c env S).bind fun b S1 => match b with
    | false => .ok (.nx env) S1
    | true => (body env S1).bind fun fl S2 => match fl with
      | .nx env2 => whlN c body f env2 S2
      | .ct env2 => whlN c body f env2 S2
      | .bk env2 => .ok (.nx env2) S2
      | .rt d => .ok (.rt d) S2
def compN (nx : Nat → Sto → Option (Option D)) (as : D → Env → Option Env) (tt : Env → Sto → Out Bool) (elt : Env → Sto → Out D) (env : Env) : Nat → Nat → List D → Sto → Out (List D)
  | 0, _, _, _ => .no
  | f + 1, i, acc, S => match nx i S with
    | none => .no
    | some none => .ok acc S
    | some (some d) => match as d env with
      | none => .no
      | some env1 => (tt env1 S).bind fun b S1 => match b with
        | false => compN nx as tt elt env f (i + 1) acc S1
        | true => (elt env1 S1).bind fun y S2 => if acc.length < lim then compN nx as tt elt env f (i + 1) (acc ++ [y]) S2 else .no

def wipeD (env : Env) : List Nat → Env
  | [] => env
  | i :: r => (wipeD env r).set i none

def intOf : D → Option Int
  | .int i => some i
  | _ => none
def blOf : D → Option Bool
  | .bl b => some b
  | _ => none
def biD (f : BI) (ds : List D) (S : Sto) : Out D := match f, ds with
  | .len, [d] => match lenD S d with
    | some n => .ok (.int n) S
    | none => .no
  | .min2, [.int i, .int j] => .ok (.int (if j < i then j else i)) S
  | .max2, [.int i, .int j] => .ok (.int (if j > i then j else i)) S
  | .abs, [.int i] => .ok (.int (if i < 0 then -i else i)) S
  | .int1, [.int i] => .ok (.int i) S
  | .int1, [.bl b] => .ok (.int (if b then 1 else 0)) S
  | .tup1, [.tup xs] => .ok (.tup xs) S
  | .tup1, [d] => match seqAt S d with
    | some xs => .ok (.tup xs) S
    | none => .no
  | .all1, [d] => match (seqAt S d).bind fun xs => xs.mapM blOf with
    | some bs => .ok (.bl (bs.all id)) S
    | none => .no
  | .any1, [d] => match (seqAt S d).bind fun xs => xs.mapM blOf with
    | some bs => .ok (.bl (bs.any id)) S
    | none => .no
  | .sum1, [d] => match (seqAt S d).bind fun xs => xs.mapM intOf with
    | some ns => .ok (.int ns.sum) S
    | none => .no
  | .lst1, [.tup xs] => new S (.lst xs)
  | .lst1, [d] => match seqAt S d with
    | some xs => new S (.lst xs)
    | none => .no
  | _, _ => .no

def putKD {κ : Type} [DecidableEq κ] (kvs : List (κ × D)) (k : κ) (x : D) : List (κ × D) := if (kvs.any fun kv => decide (kv.1 = k)) = true then kvs.map (fun kv => if kv.1 = k then (kv.1, x) else kv) else kvs ++ [(k, x)]
def mergeD (kvs more : List (Key × D)) : List (Key × D) := more.foldl (fun acc kv => putKD acc kv.1 kv.2) kvs
def getB (o : MO) (k : D) : Option (Option D) := match o with
  | .dK kvs => k.key.map fun k => getK kvs k
  | _ => none
def bmD (m : BM) (a : D) (ds : List D) (S : Sto) : Out D := match a with
  | .ref n => match S[n]? with
    | some (.lst xs) => (match m, ds with
      | .append, [d] => if xs.length < lim then .ok .non (S.set n (.lst (xs ++ [d]))) else .no
      | .extend, [.ref k] => (match lstAt S k with
        | some ys => if xs.length + ys.length ≤ lim then .ok .non (S.set n (.lst (xs ++ ys))) else .no
        | none => .no)
      | .extend, [.tup ys] => if xs.length + ys.length ≤ lim then .ok .non (S.set n (.lst (xs ++ ys))) else .no
      | .pop, [] => (match xs[xs.length - 1]? with
        | some d => .ok d (S.set n (.lst xs.dropLast))
        | none => .no)
      | .popAt, [.int i] => (match ixN xs.length i with
        | some k => (match xs[k]? with
          | some d => .ok d (S.set n (.lst (xs.eraseIdx k)))
          | none => .no)
        | none => .no)
      | .clear, [] => .ok .non (S.set n (.lst []))
      | .reverse, [] => .ok .non (S.set n (.lst xs.reverse))
      | .index, [d] => (match toPy S 40 d, xs.mapM (toPy S 39) with
        | some y, some ys => (match ys.findIdx? fun z => PyData.eqv z y with
          | some j => .ok (.int (j : Nat)) S
          | none => .no)
        | _, _ => .no)
      | _, _ => .no)
    | some o => (match m, ds with
      | .get1, [k] => (match getB o k with
        | some r => .ok (r.getD .non) S
        | none => .no)
      | .get2, [k, d] => (match getB o k with
        | some r => .ok (r.getD d) S
        | none => .no)
      | .update, [.ref k] => (match o, S[k]? with
        | .dK kvs, some (.dK more) => if n ≠ k ∧ kvs.length + more.length ≤ lim then .ok .non (S.set n (.dK (mergeD kvs more))) else .no
        | _, _ => .no)
      | _, _ => .no)
    | none => .no
  | _ => .no

/-- whether it is a thing of that method's type -/
def bmK (m : BM) (a : D) (S : Sto) : Bool := match a with
  | .ref n => match S[n]? with
    | some (.lst _) => (match m with
      | .get1 => false
      | .get2 => false
      | .update => false
      | _ => true)
    | some (.dK _) => (match m with
      | .get1 => true
      | .get2 => true
      | .update => true
      | _ => false)
    | _ => false
  | _ => false

/-- the kinds of things that isinstance tells apart -/
def tyName (S : Sto) : D → Option (KT ⊕ Nat)
  | .non => some (.inl .none)
  | .bl _ => some (.inl .bool)
  | .int _ => some (.inl .int)
  | .str _ => some (.inl .str)
  | .tup _ => some (.inl .tuple)
  | .rol _ => some (.inl .list)
  | .ref n => match S[n]? with
    | some (.lst _) => some (.inl .list)
    | some (.dK _) => some (.inl .dict)
    | some (.dT _) => some (.inl .dict)
    | some (.ins c _) => some (.inr c)
    | none => none
def tyLe (u t : KT) : Bool := decide (u = t) || (decide (u = .bool) && decide (t = .int))
def isTy (S : Sto) (d : D) : Ty → Option Bool
  | .b t => match tyName S d with
    | some (.inl u) => some (tyLe u t)
    | some (.inr _) => none
    | none => none
  | .own _ => none
def isTys (S : Sto) (d : D) : List Ty → Option Bool
  | [] => some false
  | t :: ts => match isTy S d t with
    | some true => some true
    | some false => isTys S d ts
    | none => none

def pairsD : List D → Option (List (Key × D))
  | [] => some []
  | k :: v :: r => match k.key, pairsD r with
    | some q, some l => some ((q, v) :: l)
    | _, _ => none
  | _ => none
/-- a[k] = x -/
def setD (a k x : D) (S : Sto) : Option Sto := match a with
  | .ref n => match S[n]? with
    | some (.lst xs) => (match k with
      | .int z => (match ixN xs.length z with
        | some j => some (S.set n (.lst (xs.set j x)))
        | none => none)
      | _ => none)
    | some (.dK kvs) => (match k.key with
      | some q => if kvs.length < lim then some (S.set n (.dK (putKD kvs q x))) else none
      | none => none)
    | _ => none
  | _ => none

/-- the defs that are called, those that make instances, the module's constants -/
structure Fs where
  f : Nat → List D → Sto → Out D
  m : Nat → List D → Sto → Out D
  gv : Nat → D
section
variable (Y : Fs)
mutual
def ev : E → Env → Sto → Out D
  | .var i, env, S => match env[i]? with
    | some (some d) => .ok d S
    | _ => .no
  | .con c, _, S => .ok c S
  | .glob g, _, S => .ok (Y.gv g) S
  | .bin op a b, env, S => (ev a env S).bind fun x S1 => (ev b env S1).bind fun y S2 => binD op x y S2
  | .una op a, env, S => (ev a env S).bind fun x S1 => unD op x S1
  | .cmp op a b, env, S => (ev a env S).bind fun x S1 => (ev b env S1).bind fun y S2 => obl (cmpD op x y S2) S2
  | .chain op op' a b c, env, S => (ev a env S).bind fun x S1 => (ev b env S1).bind fun y S2 => match cmpD op x y S2 with
    | some true => (ev c env S2).bind fun z S3 => obl (cmpD op' y z S3) S3
    | some false => .ok (.bl false) S2
    | none => .no
  | .and_ es, env, S => evAnd es env S
  | .or_ es, env, S => evOr es env S
  | .not_ a, env, S => (ev a env S).bind fun x S1 => obl ((truthD S1 x).map (!·)) S1
  | .ite c a b, env, S => (ev c env S).bind fun x S1 => match truthD S1 x with
    | some true => ev a env S1
    | some false => ev b env S1
    | none => .no
  | .tup es, env, S => (evs es env S).bind fun xs S1 => if xs.length ≤ lim then .ok (.tup xs) S1 else .no
  | .lst es, env, S => (evs es env S).bind fun xs S1 => if xs.length ≤ lim then new S1 (.lst xs) else .no
  | .idx a i, env, S => (ev a env S).bind fun x S1 => (ev i env S1).bind fun y S2 => idxD x y S2
  | .slc a hl hh lo hi, env, S => (ev a env S).bind fun x S1 => match hl, hh with
    | false, false => slcD x none none S1
    | true, false => (ev lo env S1).bind fun y S2 => match y with
      | .int i => slcD x (some i) none S2
      | _ => .no
    | false, true => (ev hi env S1).bind fun y S2 => match y with
      | .int i => slcD x none (some i) S2
      | _ => .no
    | true, true => (ev lo env S1).bind fun y S2 => (ev hi env S2).bind fun z S3 => match y, z with
      | .int i, .int j => slcD x (some i) (some j) S3
      | _, _ => .no
  | .attr a f, env, S => (ev a env S).bind fun x S1 => match x with
    | .ref n => match S1[n]? with
      | some (.ins _ fs) => oD (getF fs f) S1
      | _ => .no
    | _ => .no
  | .call f es, env, S => (evs es env S).bind fun xs S1 => Y.f f xs S1
  | .make c es, env, S => .no
  | .meth a m es, env, S => .no
  | .bm m a es, env, S => (ev a env S).bind fun x S1 => if bmK m x S1 = true then (evs es env S1).bind fun xs S2 => bmD m x xs S2 else .no
  | .bi f es, env, S => (evs es env S).bind fun xs S1 => biD f xs S1
  | .isi a _ ts, env, S => (ev a env S).bind fun x S1 => obl (isTys S1 x ts) S1
  | .comp own tg it ifs elt, env, S => (evI it env S).bind fun J S1 =>
      (compN (itNext J) (asg tg) (fun e s => evIfs ifs e s) (fun e s => ev elt e s) (wipeD env (own.map (·.2))) (lim + 2) 0 [] S1).bind fun xs S2 => new S2 (.lst xs)
  | .dnew t, _, S => new S (if t then .dT [] else .dK [])
  | .dsp es, env, S => (evs es env S).bind fun ds S1 => match pairsD ds with
    | some kvs => if kvs.length ≤ 15 then new S1 (.dK (mergeD [] kvs)) else .no
    | none => .no
  | .join a e, env, S => (ev a env S).bind fun x S1 => match x with
    | .str s => (ev e env S1).bind fun y S2 => joinD (.str s) y S2
    | _ => .no
  | .lrev a, env, S => (ev a env S).bind fun x S1 => match seqAt S1 x with
    | some xs => new S1 (.lst xs.reverse)
    | none => .no
def evAnd : Es → Env → Sto → Out D
  | .nil, _, _ => .no
  | .cons e es, env, S => match es with
    | .nil => ev e env S
    | .cons e' es' => (ev e env S).bind fun x S1 => match truthD S1 x with
      | some true => evAnd (.cons e' es') env S1
      | some false => .ok x S1
      | none => .no
def evOr : Es → Env → Sto → Out D
  | .nil, _, _ => .no
  | .cons e es, env, S => match es with
    | .nil => ev e env S
    | .cons e' es' => (ev e env S).bind fun x S1 => match truthD S1 x with
      | some true => .ok x S1
      | some false => evOr (.cons e' es') env S1
      | none => .no
def evs : Es → Env → Sto → Out (List D)
  | .nil, _, S => .ok [] S
  | .cons e es, env, S => (ev e env S).bind fun x S1 => (evs es env S1).bind fun xs S2 => .ok (x :: xs) S2
def evIfs : Es → Env → Sto → Out Bool
  | .nil, _, S => .ok true S
  | .cons e _, env, S => (ev e env S).bind fun x S1 => match truthD S1 x with
    | some b => .ok b S1
    | none => .no
def evI : I → Env → Sto → Out It
  | .val e, env, S => (ev e env S).bind fun x S1 => match x with
    | .tup xs => .ok (.tup xs) S1
    | .str x => .ok (.chars x) S1
    | x => match seqAt S1 x with
      | some _ => .ok (.seq x) S1
      | none => .no
  | .rng1 e, env, S => (ev e env S).bind fun x S1 => match x with
    | .int j => if -(2 ^ 62) ≤ j ∧ j < 2 ^ 62 then .ok (.rng 0 j.toNat) S1 else .no
    | _ => .no
  | .rng2 a b, env, S => (ev a env S).bind fun x S1 => (ev b env S1).bind fun y S2 => match x, y with
    | .int i, .int j => if -(2 ^ 62) ≤ i ∧ i < 2 ^ 62 ∧ -(2 ^ 62) ≤ j ∧ j < 2 ^ 62 then .ok (.rng i (j - i).toNat) S2 else .no
    | _, _ => .no
  | .enu e, env, S => (ev e env S).bind fun x S1 => match seqAt S1 x with
      | some _ => .ok (.enu x) S1
      | none => .no
  | .zip a b, env, S => (ev a env S).bind fun x S1 => (ev b env S1).bind fun y S2 => match sqAt S2 x, sqAt S2 y with
    | some _, some _ => .ok (.zip x y) S2
    | _, _ => .no
end

def evT (e : E) (env : Env) (S : Sto) : Out Bool := (ev Y e env S).bind fun x S1 => match truthD S1 x with
  | some b => .ok b S1
  | none => .no

mutual
def exec : C → Env → Sto → Out Fl
  | .set i e, env, S => (ev Y e env S).bind fun x S1 => .ok (.nx (env.set i (some x))) S1
  | .aug i op e, env, S => match env[i]? with
    | some (some x) => (ev Y e env S).bind fun y S1 => (augD op x y S1).bind fun z S2 => .ok (.nx (env.set i (some z))) S2
    | _ => .no
  | .setT is e, env, S => (ev Y e env S).bind fun x S1 => match asgS S1 is x env with
    | some env1 => .ok (.nx env1) S1
    | none => .no
  | .par i j a b, env, S => (ev Y a env S).bind fun x S1 => (ev Y b env S1).bind fun y S2 => .ok (.nx ((env.set i (some x)).set j (some y))) S2
  | .setIx o i e, env, S => (ev Y e env S).bind fun x S1 => (ev Y o env S1).bind fun a S2 => (ev Y i env S2).bind fun k S3 => match setD a k x S3 with
    | some S4 => .ok (.nx env) S4
    | none => .no
  | .setAt o f e, env, S => (ev Y e env S).bind fun x S1 => (ev Y o env S1).bind fun a S2 => match a with
    | .ref n => match S2[n]? with
      | some (.ins c fs) => if fs.length < 1000 then .ok (.nx env) (S2.set n (.ins c (putF' f x fs))) else .no
      | _ => .no
    | _ => .no
  | .ex e, env, S => (ev Y e env S).bind fun _ S1 => .ok (.nx env) S1
  | .ret e, env, S => (ev Y e env S).bind fun x S1 => .ok (.rt x) S1
  | .retN, _, S => .ok (.rt .non) S
  | .pass, env, S => .ok (.nx env) S
  | .doc, env, S => .ok (.nx env) S
  | .brk, env, S => .ok (.bk env) S
  | .cnt, env, S => .ok (.ct env) S
  | .ifS c a b, env, S => (evT Y c env S).bind fun t S1 => match t with
    | true => execs a env S1
    | false => execs b env S1
  | .forS tg it b, env, S => (evI Y it env S).bind fun J S1 => forN (itNext J) (asg tg) (fun e s => execs b e s) (lim + 2) 0 env S1
  | .whl c b, env, S => whlN (fun e s => evT Y c e s) (fun e s => execs b e s) (lim + 2) env S
def execs : Cs → Env → Sto → Out Fl
  | .nil, env, S => .ok (.nx env) S
  | .cons c cs, env, S => (exec c env S).bind fun fl S1 => match fl with
    | .nx env1 => execs cs env1 S1
    | fl => .ok fl S1
end
end

/-- a def: how many names it has, its body -/
structure FI where
  nm : Str
  N : List Str
  ps : List Str
  b : Cs
structure Gi where
  fns : List FI
  gv : Nat → D
  gnm : Nat → Str
def runF (Y : Fs) (fi : FI) (ds : List D) (S : Sto) : Out D :=
  if ds.length = fi.ps.length then (execs Y fi.b (ds.map some ++ List.replicate (fi.N.length - ds.length) none) S).bind fun fl S1 => match fl with
    | .rt d => .ok d S1
    | .nx _ => .ok .non S1
    | _ => .no
  else .no
/-- the defs at n levels -/
def fnN (G : Gi) : Nat → Nat → List D → Sto → Out D
  | 0, _, _, _ => .no
  | 1, f, ds, S => match G.fns[f]? with
    | some fi => runF ⟨fun _ _ _ => .no, fun _ _ _ => .no, G.gv⟩ fi ds S
    | none => .no
  | n + 2, f, ds, S => match G.fns[f]? with
    | some fi => runF ⟨fnN G (n + 1), fnN G n, G.gv⟩ fi ds S
    | none => .no
end Mi

namespace Mi
open PySem L2 PySem.Spec PyProof.Rows

abbrev Bt := Nat → Option Addr
/-- where the names of the text stand -/
structure Nm where
  K : PySem.W.Frag
  cl : Nat → Addr
  fnm : Nat → Str

/-- a list that nobody writes -/
def ROL (K : PySem.W.Frag) (H : Hp) (a : Addr) (xs : List V) : Prop := (∃ o, H a = some (.frz o (.lst xs))) ∨
    ∃ (o : Obj) (its : Array Value) (n : Nat), K.lookup a = some o ∧ o.cls = .type "list" ∧ o.dict = none ∧ o.data = .seq its n ∧ its.size ≤ sizeLine ∧ Vals xs its.toList
theorem ROL.sq {K : PySem.W.Frag} {H : Hp} {a : Addr} {xs : List V} (h : ROL K H a xs) : SqL K H a xs := by
  rcases h with ⟨o, h⟩ | h
  · exact .inl (.inr ⟨o, h⟩)
  · exact .inr h

mutual
inductive VR (K : PySem.W.Frag) (β : Bt) (H : Hp) : D → V → Prop
  | non : VR K β H .non .non
  | bl (b : Bool) : VR K β H (.bl b) (.bl b)
  | int (i : Int) : VR K β H (.int i) (.int i)
  | str (x : Str) : VR K β H (.str x) (.str x)
  | tup {a : Addr} {vs : List V} {xs : List D} : SqT K H a vs → VRs K β H xs vs → VR K β H (.tup xs) (.ref a)
  | rol {a : Addr} {vs : List V} {xs : List D} : ROL K H a vs → VRs K β H xs vs → VR K β H (.rol xs) (.ref a)
  | ref {n : Nat} {a : Addr} : β n = some a → VR K β H (.ref n) (.ref a)
inductive VRs (K : PySem.W.Frag) (β : Bt) (H : Hp) : List D → List V → Prop
  | nil : VRs K β H [] []
  | cons {d : D} {v : V} {ds : List D} {vs : List V} : VR K β H d v → VRs K β H ds vs → VRs K β H (d :: ds) (v :: vs)
end

/-- what stands at a -/
def OR (N : Nm) (β : Bt) (H : Hp) (a : Addr) : MO → Prop
  | .lst xs => ∃ vs, H a = some (.lst vs) ∧ VRs N.K β H xs vs
  | .dK kvs => ∃ ks, H a = some (.dK ks) ∧ Paired (fun (p : Key × D) (q : Key × V) => p.1 = q.1 ∧ VR N.K β H p.2 q.2) kvs ks
  | .dT kvs => ∃ ks, H a = some (.dT ks) ∧ Paired (fun (p : List Key × D) (q : List Key × V) => p.1 = q.1 ∧ VR N.K β H p.2 q.2) kvs ks
  | .ins c fs => ∃ dx fv, H a = some (.ins (N.cl c) dx fv) ∧ Paired (fun (p : Nat × D) (q : Str × V) => N.fnm p.1 = q.1 ∧ VR N.K β H p.2 q.2) fs fv

structure Sim (N : Nm) (β : Bt) (S : Sto) (H : Hp) : Prop where
  obj : ∀ n o, S[n]? = some o → ∃ a, β n = some a ∧ OR N β H a o
  up : ∀ n a, β n = some a → n < S.length
  inj : ∀ m n a, β m = some a → β n = some a → m = n

structure Nxt (β : Bt) (H : Hp) (β' : Bt) (H' : Hp) : Prop where
  ext : ∀ n a, β n = some a → β' n = some a
  fresh : ∀ n a, β' n = some a → β n = some a ∨ H a = none
  kept : ∀ a o, H a = some o → (∀ n, β n ≠ some a) → H' a = some o
  there : ∀ a o, H a = some o → ∃ o', H' a = some o'

theorem Nxt.refl (β : Bt) (H : Hp) : Nxt β H β H := ⟨fun _ _ h => h, fun _ _ h => .inl h, fun _ _ h _ => h, fun _ o h => ⟨o, h⟩⟩
theorem Nxt.trans {β β1 β2 : Bt} {H H1 H2 : Hp} (a : Nxt β H β1 H1) (b : Nxt β1 H1 β2 H2) : Nxt β H β2 H2 where
  ext := fun n x h => b.ext n x (a.ext n x h)
  fresh := fun n x h => by
    rcases b.fresh n x h with h | h
    · exact a.fresh n x h
    · refine .inr ?_
      cases e : H x with
      | none => rfl
      | some o =>
        obtain ⟨o', q⟩ := a.there x o e
        rw [h] at q; cases q
  kept := fun x o h hn => b.kept x o (a.kept x o h hn) fun n hb => by
    rcases a.fresh n x hb with z | z
    · exact hn n z
    · rw [h] at z; cases z
  there := fun x o h => by
    obtain ⟨o', q⟩ := a.there x o h
    exact b.there x o' q

/-- what values lean on -/
structure Sub (K : PySem.W.Frag) (β : Bt) (H : Hp) (β' : Bt) (H' : Hp) : Prop where
  ext : ∀ n a, β n = some a → β' n = some a
  tup : ∀ a xs, SqT K H a xs → SqT K H' a xs
  rol : ∀ a xs, ROL K H a xs → ROL K H' a xs
mutual
theorem VR.mono {K : PySem.W.Frag} {β β' : Bt} {H H' : Hp} (s : Sub K β H β' H') : ∀ (d : D) (v : V), VR K β H d v → VR K β' H' d v
  | .non, _, h => by cases h; exact .non
  | .bl _, _, h => by cases h; exact .bl _
  | .int _, _, h => by cases h; exact .int _
  | .str _, _, h => by cases h; exact .str _
  | .tup xs, _, h => by
    cases h with
    | tup a b => exact .tup (s.tup _ _ a) (VRs.mono s xs _ b)
  | .rol xs, _, h => by
    cases h with
    | rol a b => exact .rol (s.rol _ _ a) (VRs.mono s xs _ b)
  | .ref _, _, h => by
    cases h with
    | ref a => exact .ref (s.ext _ _ a)
theorem VRs.mono {K : PySem.W.Frag} {β β' : Bt} {H H' : Hp} (s : Sub K β H β' H') : ∀ (ds : List D) (vs : List V), VRs K β H ds vs → VRs K β' H' ds vs
  | [], _, h => by cases h; exact .nil
  | d :: ds, _, h => by
    cases h with
    | cons a b => exact .cons (VR.mono s d _ a) (VRs.mono s ds _ b)
end

section
variable {N : Nm} {β β' : Bt} {S S' : Sto} {H H' : Hp}
/-- a tracked thing of ours -/
def Mut' (o : HO) : Prop := match o with
  | .lst _ => True
  | .dK _ => True
  | .dT _ => True
  | .ins _ _ _ => True
  | _ => False
theorem OR.mut {a : Addr} {o : MO} (h : OR N β H a o) : ∃ u, H a = some u ∧ Mut' u := by
  cases o with
  | lst xs => obtain ⟨vs, e, _⟩ := h; exact ⟨_, e, trivial⟩
  | dK xs => obtain ⟨vs, e, _⟩ := h; exact ⟨_, e, trivial⟩
  | dT xs => obtain ⟨vs, e, _⟩ := h; exact ⟨_, e, trivial⟩
  | ins c fs => obtain ⟨dx, vs, e, _⟩ := h; exact ⟨_, e, trivial⟩
theorem Sim.mut (s : Sim N β S H) {n : Nat} {a : Addr} (h : β n = some a) : ∃ u, H a = some u ∧ Mut' u := by
  have hl := s.up n a h
  obtain ⟨a', e, q⟩ := s.obj n S[n] (List.getElem?_eq_getElem hl)
  rw [h] at e; cases e
  exact q.mut
theorem Sim.nimg (s : Sim N β S H) {a : Addr} {u : HO} (h : H a = some u) (hm : ¬ Mut' u) (n : Nat) : β n ≠ some a := fun e => by
  obtain ⟨u', e', m⟩ := s.mut e
  rw [h] at e'; cases e'
  exact hm m
theorem Nxt.sub (x : Nxt β H β' H') (s : Sim N β S H) : Sub N.K β H β' H' where
  ext := x.ext
  tup := fun a xs h => by
    rcases h with (h | ⟨o, h⟩) | h
    · exact .inl (.inl (x.kept _ _ h (s.nimg h id)))
    · exact .inl (.inr ⟨o, x.kept _ _ h (s.nimg h id)⟩)
    · exact .inr h
  rol := fun a xs h => by
    rcases h with ⟨o, h⟩ | h
    · exact .inl ⟨o, x.kept _ _ h (s.nimg h id)⟩
    · exact .inr h
theorem VR.nxt {d : D} {v : V} (h : VR N.K β H d v) (s : Sim N β S H) (x : Nxt β H β' H') : VR N.K β' H' d v := VR.mono (x.sub s) d v h
theorem VRs.nxt {d : List D} {v : List V} (h : VRs N.K β H d v) (s : Sim N β S H) (x : Nxt β H β' H') : VRs N.K β' H' d v := VRs.mono (x.sub s) d v h
theorem Paired.imp {α γ : Type} {P Q : α → γ → Prop} (f : ∀ a b, P a b → Q a b) {l : List α} {m : List γ} (h : Paired P l m) : Paired Q l m := by
  induction h with
  | nil => exact .nil
  | cons a _ ih => exact .cons (f _ _ a) ih
/-- an object that is not touched -/
theorem OR.nxt {a : Addr} {o : MO} (h : OR N β H a o) (s : Sim N β S H) (x : Nxt β H β' H') (ha : ∀ u, H a = some u → H' a = some u) : OR N β' H' a o := by
  cases o with
  | lst xs =>
    obtain ⟨vs, e, r⟩ := h
    exact ⟨vs, ha _ e, r.nxt s x⟩
  | dK kvs =>
    obtain ⟨ks, e, r⟩ := h
    exact ⟨ks, ha _ e, Paired.imp (fun _ _ q => ⟨q.1, q.2.nxt s x⟩) r⟩
  | dT kvs =>
    obtain ⟨ks, e, r⟩ := h
    exact ⟨ks, ha _ e, Paired.imp (fun _ _ q => ⟨q.1, q.2.nxt s x⟩) r⟩
  | ins c fs =>
    obtain ⟨dx, fv, e, r⟩ := h
    exact ⟨dx, fv, ha _ e, Paired.imp (fun _ _ q => ⟨q.1, q.2.nxt s x⟩) r⟩

/-- something untracked by us is laid -/
theorem Nxt.lay {p : Addr} {o : HO} (hp : H p = none) : Nxt β H β (upd H p o) where
  ext := fun _ _ h => h
  fresh := fun _ _ h => .inl h
  kept := fun a u h _ => by rw [upd_ne (ne_of_none h hp)]; exact h
  there := fun a u h => ⟨u, by rw [upd_ne (ne_of_none h hp)]; exact h⟩
theorem Sim.keep (s : Sim N β S H) (x : Nxt β H β H') (k : ∀ n a, β n = some a → ∀ u, H a = some u → H' a = some u) : Sim N β S H' where
  obj := fun n o h => by
    obtain ⟨a, e, q⟩ := s.obj n o h
    exact ⟨a, e, q.nxt s x (k n a e)⟩
  up := s.up
  inj := s.inj
theorem Sim.lay {p : Addr} {o : HO} (s : Sim N β S H) (hp : H p = none) : Sim N β S (upd H p o) :=
  s.keep (.lay hp) fun n a _ u h => by rw [upd_ne (ne_of_none h hp)]; exact h

def ins (β : Bt) (k : Nat) (p : Addr) : Bt := fun n => if n = k then some p else β n
/-- a new object of ours -/
theorem Nxt.new {p : Addr} {o : HO} (s : Sim N β S H) (hp : H p = none) : Nxt β H (ins β S.length p) (upd H p o) where
  ext := fun n a h => by
    have : n ≠ S.length := Nat.ne_of_lt (s.up n a h)
    unfold ins; rw [if_neg this]; exact h
  fresh := fun n a h => by
    unfold ins at h
    split at h
    · cases h; exact .inr hp
    · exact .inl h
  kept := fun a u h _ => by rw [upd_ne (ne_of_none h hp)]; exact h
  there := fun a u h => ⟨u, by rw [upd_ne (ne_of_none h hp)]; exact h⟩
theorem Sim.new {p : Addr} {u : HO} {o : MO} (s : Sim N β S H) (hp : H p = none) (q : OR N (ins β S.length p) (upd H p u) p o) : Sim N (ins β S.length p) (S ++ [o]) (upd H p u) where
  obj := fun n o' h => by
    by_cases hn : n < S.length
    · rw [List.getElem?_append_left hn] at h
      obtain ⟨a, e, r⟩ := s.obj n o' h
      refine ⟨a, (Nxt.new (o := u) s hp).ext n a e, r.nxt s (.new s hp) fun w hw => ?_⟩
      rw [upd_ne (ne_of_none hw hp)]; exact hw
    · have hl := (List.getElem?_eq_some_iff.mp h).1
      rw [List.length_append, List.length_singleton] at hl
      have en : n = S.length := by omega
      subst en
      rw [List.getElem?_append_right (Nat.le_refl _), Nat.sub_self] at h
      cases h
      exact ⟨p, if_pos rfl, q⟩
  up := fun n a h => by
    rw [List.length_append, List.length_singleton]
    unfold ins at h
    split at h
    · omega
    · have := s.up n a h; omega
  inj := fun m n a h1 h2 => by
    have no : ∀ k, β k ≠ some p := fun k e => by
      obtain ⟨u', e', _⟩ := s.mut e
      rw [hp] at e'; cases e'
    unfold ins at h1 h2
    split at h1 <;> split at h2
    · omega
    · cases h1; exact absurd h2 (no n)
    · cases h2; exact absurd h1 (no m)
    · exact s.inj m n a h1 h2
/-- an object of ours is written -/
theorem Nxt.write {n : Nat} {a : Addr} {u : HO} (h : β n = some a) : Nxt β H β (upd H a u) where
  ext := fun _ _ h => h
  fresh := fun _ _ h => .inl h
  kept := fun b w hb hn => by rw [upd_ne (fun e => hn n (by rw [e]; exact h))]; exact hb
  there := fun b w hb => by
    by_cases e : b = a
    · subst e; exact ⟨u, upd_same⟩
    · exact ⟨w, by rw [upd_ne e]; exact hb⟩
theorem Sim.write {n : Nat} {a : Addr} {u : HO} {o : MO} (s : Sim N β S H) (h : β n = some a) (q : OR N β (upd H a u) a o) : Sim N β (S.set n o) (upd H a u) where
  obj := fun m o' hm => by
    by_cases e : m = n
    · subst e
      have hl : m < S.length := s.up m a h
      rw [List.getElem?_set_self hl] at hm
      cases hm
      exact ⟨a, h, q⟩
    · rw [List.getElem?_set_ne (Ne.symm e)] at hm
      obtain ⟨b, eb, r⟩ := s.obj m o' hm
      refine ⟨b, eb, r.nxt s (.write h) fun w hw => ?_⟩
      rw [upd_ne (fun z => e (s.inj m n a (by rw [← z]; exact eb) h))]
      exact hw
  up := fun m b hb => by rw [List.length_set]; exact s.up m b hb
  inj := s.inj
end

/-! ### the names' values -/
structure EnvR (K : PySem.W.Frag) (β : Bt) (H : Hp) (env : Env) (σ : List (Option V)) : Prop where
  len : env.length = σ.length
  val : ∀ (i : Nat) (d : D), env[i]? = some (some d) → ∃ v, σ[i]? = some (some v) ∧ VR K β H d v
section
variable {N : Nm} {β β' : Bt} {S S' : Sto} {H H' : Hp} {env : Env} {σ : List (Option V)}
theorem EnvR.nxt (r : EnvR N.K β H env σ) (s : Sim N β S H) (x : Nxt β H β' H') : EnvR N.K β' H' env σ :=
  ⟨r.len, fun i d h => let ⟨v, e, q⟩ := r.val i d h; ⟨v, e, q.nxt s x⟩⟩
theorem EnvR.set (r : EnvR N.K β H env σ) {i : Nat} {d : D} {v : V} (q : VR N.K β H d v) : EnvR N.K β H (env.set i (some d)) (σ.set i (some v)) :=
  ⟨by rw [List.length_set, List.length_set]; exact r.len, fun j e h => by
    by_cases hj : j = i
    · subst hj
      have hl : j < env.length := by
        have := (List.getElem?_eq_some_iff.mp h).1
        rwa [List.length_set] at this
      rw [List.getElem?_set_self hl] at h
      cases h
      exact ⟨v, by rw [List.getElem?_set_self (by rw [← r.len]; exact hl)], q⟩
    · rw [List.getElem?_set_ne (Ne.symm hj)] at h
      rw [List.getElem?_set_ne (Ne.symm hj)]
      exact r.val j e h⟩
theorem EnvR.clear (r : EnvR N.K β H env σ) {i : Nat} : EnvR N.K β H (env.set i none) (σ.set i none) :=
  ⟨by rw [List.length_set, List.length_set]; exact r.len, fun j e h => by
    by_cases hj : j = i
    · subst hj
      have hl : j < env.length := by
        have := (List.getElem?_eq_some_iff.mp h).1
        rwa [List.length_set] at this
      rw [List.getElem?_set_self hl] at h
      cases h
    · rw [List.getElem?_set_ne (Ne.symm hj)] at h
      rw [List.getElem?_set_ne (Ne.symm hj)]
      exact r.val j e h⟩
end

/-! ### what is wanted of an outcome -/
def Want {α τ : Type} (N : Nm) (R : Bt → Hp → α → τ → Prop) (β : Bt) (H : Hp) (o : Out α) (Q : τ → Hp → Prop) : Prop := match o with
  | .ok a S' => ∀ β' H' t, Nxt β H β' H' → Sim N β' S' H' → R β' H' a t → Q t H'
  | _ => False
section
variable {α γ τ ρ : Type} {N : Nm} {R : Bt → Hp → α → τ → Prop} {R' : Bt → Hp → γ → ρ → Prop} {β β' : Bt} {H H' : Hp}
theorem Want.nxt {o : Out α} {Q : τ → Hp → Prop} (x : Nxt β H β' H') (w : Want N R β H o Q) : Want N R β' H' o Q := by
  cases o with
  | ok a S => exact fun b h t n => w b h t (x.trans n)
  | exc c fs S => exact w
  | no => exact w
theorem Want.bind {o : Out α} {f : α → Sto → Out γ} {Q : ρ → Hp → Prop} {Q1 : τ → Hp → Prop} (w : Want N R' β H (o.bind f) Q)
    (h : ∀ a S1, o = .ok a S1 → ∀ β1 H1 t, Nxt β H β1 H1 → Sim N β1 S1 H1 → R β1 H1 a t → Want N R' β1 H1 (f a S1) Q → Q1 t H1) : Want N R β H o Q1 := by
  cases o with
  | ok a S => exact fun b h' t n s r => h a S rfl b h' t n s r (Want.nxt (R := R') n w)
  | exc c fs S => exact w
  | no => exact w
theorem Want.here {a : α} {S : Sto} {t : τ} {Q : τ → Hp → Prop} (w : Want N R β H (.ok a S) Q) (s : Sim N β S H) (r : R β H a t) : Q t H := w β H t (.refl _ _) s r
theorem Want.at {a : α} {S : Sto} {t : τ} {Q : τ → Hp → Prop} (w : Want N R β H (.ok a S) Q) (x : Nxt β H β' H') (s : Sim N β' S H') (r : R β' H' a t) : Q t H' := w β' H' t x s r
end
abbrev RD (N : Nm) : Bt → Hp → D → V → Prop := fun β H d v => VR N.K β H d v
abbrev RDs (N : Nm) : Bt → Hp → List D → List V → Prop := fun β H d v => VRs N.K β H d v
abbrev RB : Bt → Hp → Bool → Bool → Prop := fun _ _ a b => a = b

/-- readings -/
def tE (N : Nm) (Y : Fs) (e : E) : TE := fun σ H Q => ∃ β env S, Sim N β S H ∧ EnvR N.K β H env σ ∧ Want N (RD N) β H (ev Y e env S) Q
def tEs (N : Nm) (Y : Fs) (es : Es) : TA := fun σ H Q => ∃ β env S, Sim N β S H ∧ EnvR N.K β H env σ ∧ Want N (RDs N) β H (evs Y es env S) Q
def tT (N : Nm) (Y : Fs) (e : E) : TT := fun σ H Q => ∃ β env S, Sim N β S H ∧ EnvR N.K β H env σ ∧ Want N RB β H (evT Y e env S) Q
def tIfs (N : Nm) (Y : Fs) (es : Es) : TT := fun σ H Q => ∃ β env S, Sim N β S H ∧ EnvR N.K β H env σ ∧ Want N RB β H (evIfs Y es env S) Q
/-- a two-place operation by values -/
def r2 (N : Nm) (f : D → D → Sto → Out D) : R2 := fun x y H Q => ∃ β S d e, Sim N β S H ∧ VR N.K β H d x ∧ VR N.K β H e y ∧ Want N (RD N) β H (f d e S) Q
def r1 (N : Nm) (f : D → Sto → Out D) : V → Hp → VK → Prop := fun x H Q => ∃ β S d, Sim N β S H ∧ VR N.K β H d x ∧ Want N (RD N) β H (f d S) Q
def rs (N : Nm) (f : List D → Sto → Out D) : List V → Hp → VK → Prop := fun xs H Q => ∃ β S ds, Sim N β S H ∧ VRs N.K β H ds xs ∧ Want N (RD N) β H (f ds S) Q

/-! ### a weaker reading -/
theorem PE.imp {X : Cx} {e : PySem.Expr} {t t' : TE} (h : PE X e t) (f : ∀ σ H Q, t' σ H Q → t σ H Q) : PE X e t' := ⟨fun p s σ H Q I w => h.run p s σ H Q I (f _ _ _ w)⟩
theorem PT.imp {X : Cx} {e : PySem.Expr} {t t' : TT} (h : PT X e t) (f : ∀ σ H Q, t' σ H Q → t σ H Q) : PT X e t' := ⟨fun p s σ H Q I w => h.run p s σ H Q I (f _ _ _ w)⟩
theorem PW.imp {X : Cx} {e : PySem.Expr} {t t' : TT} (h : PW X e t) (f : ∀ σ H Q, t' σ H Q → t σ H Q) : PW X e t' := ⟨fun wh p s σ H Q I w => h.run wh p s σ H Q I (f _ _ _ w)⟩
theorem PA.imp {X : Cx} {e : List PySem.Expr} {t t' : TA} (h : PA X e t) (f : ∀ σ H Q, t' σ H Q → t σ H Q) : PA X e t' := ⟨fun q p s σ H Q I w => h.run q p s σ H Q I (f _ _ _ w)⟩
theorem PS.imp {X : Cx} {c : Stmt} {t t' : TS} (h : PS X c t) (f : ∀ D σ H, t' D σ H → t D σ H) : PS X c t' := ⟨fun p s σ H D I w => h.run p s σ H D I (f _ _ _ w)⟩
theorem PSs.imp {X : Cx} {c : List Stmt} {t t' : TS} (h : PSs X c t) (f : ∀ D σ H, t' D σ H → t D σ H) : PSs X c t' := ⟨fun p s σ H D I w => h.run p s σ H D I (f _ _ _ w)⟩
theorem PTs.imp {X : Cx} {c : List PySem.Expr} {t t' : TT} (h : PTs X c t) (f : ∀ σ H Q, t' σ H Q → t σ H Q) : PTs X c t' := ⟨fun p s σ H Q I w => h.run p s σ H Q I (f _ _ _ w)⟩
theorem OpR.imp {X : Cx} {f : Value → Value → Sem Value} {r r' : R2} (h : OpR X f r) (k : ∀ x y H Q, r' x y H Q → r x y H Q) : OpR X f r' := fun p s σ H x y v u Q I rx ry w => h p s σ H x y v u Q I rx ry (k _ _ _ _ w)
end Mi

namespace Mi
open PySem L2 PySem.Spec PyProof.Rows

theorem lim_eq : lim = sizeLine := sizeLine_eq.symm

/-! ### lists of values -/
section
variable {K : PySem.W.Frag} {β : Bt} {H : Hp}
theorem VRs.length : ∀ {ds : List D} {vs : List V}, VRs K β H ds vs → ds.length = vs.length
  | [], _, h => by cases h; rfl
  | d :: ds, _, h => by
    cases h with
    | cons a b => simp [VRs.length b]
theorem VRs.append : ∀ {ds es : List D} {vs ws : List V}, VRs K β H ds vs → VRs K β H es ws → VRs K β H (ds ++ es) (vs ++ ws)
  | [], _, _, _, h, k => by cases h; exact k
  | d :: ds, _, _, _, h, k => by
    cases h with
    | cons a b => exact .cons a (VRs.append b k)
theorem VRs.get : ∀ {ds : List D} {vs : List V} {i : Nat} {d : D}, VRs K β H ds vs → ds[i]? = some d → ∃ v, vs[i]? = some v ∧ VR K β H d v
  | [], _, _, _, h, e => by simp at e
  | d :: ds, _, 0, _, h, e => by
    cases h with
    | cons a b =>
      simp at e; subst e
      exact ⟨_, rfl, a⟩
  | d :: ds, _, i + 1, d', h, e => by
    cases h with
    | cons a b =>
      obtain ⟨v, h1, h2⟩ := VRs.get (i := i) (d := d') b (by simpa using e)
      exact ⟨v, by simpa using h1, h2⟩
theorem VRs.getNone {ds : List D} {vs : List V} {i : Nat} (h : VRs K β H ds vs) (e : ds[i]? = none) : vs[i]? = none := by
  have hl := h.length
  have h2 : ds.length ≤ i := List.getElem?_eq_none_iff.mp e
  exact List.getElem?_eq_none_iff.mpr (by omega)
theorem VRs.take : ∀ {ds : List D} {vs : List V} (n : Nat), VRs K β H ds vs → VRs K β H (ds.take n) (vs.take n)
  | _, _, 0, _ => .nil
  | [], _, n + 1, h => by cases h; exact .nil
  | d :: ds, _, n + 1, h => by
    cases h with
    | cons a b => exact .cons a (VRs.take n b)
theorem VRs.drop : ∀ {ds : List D} {vs : List V} (n : Nat), VRs K β H ds vs → VRs K β H (ds.drop n) (vs.drop n)
  | _, _, 0, h => h
  | [], _, n + 1, h => by cases h; exact .nil
  | d :: ds, _, n + 1, h => by
    cases h with
    | cons a b => exact VRs.drop n b
theorem VRs.set : ∀ {ds : List D} {vs : List V} {d : D} {v : V} (i : Nat), VRs K β H ds vs → VR K β H d v → VRs K β H (ds.set i d) (vs.set i v)
  | [], _, _, _, _, h, _ => by cases h; exact .nil
  | d :: ds, _, _, _, 0, h, q => by
    cases h with
    | cons a b => exact .cons q b
  | d :: ds, _, _, _, i + 1, h, q => by
    cases h with
    | cons a b => exact .cons a (VRs.set i b q)
theorem VRs.erase : ∀ {ds : List D} {vs : List V} (i : Nat), VRs K β H ds vs → VRs K β H (ds.eraseIdx i) (vs.eraseIdx i)
  | [], _, _, h => by cases h; exact .nil
  | d :: ds, _, 0, h => by
    cases h with
    | cons a b => exact b
  | d :: ds, _, i + 1, h => by
    cases h with
    | cons a b => exact .cons a (VRs.erase i b)
theorem VRs.dropLast {ds : List D} {vs : List V} (h : VRs K β H ds vs) : VRs K β H ds.dropLast vs.dropLast := by
  rw [List.dropLast_eq_take, List.dropLast_eq_take, h.length]
  exact h.take _
theorem VRs.reverse : ∀ {ds : List D} {vs : List V}, VRs K β H ds vs → VRs K β H ds.reverse vs.reverse
  | [], _, h => by cases h; exact .nil
  | d :: ds, _, h => by
    cases h with
    | cons a b =>
      rw [List.reverse_cons, List.reverse_cons]
      exact (VRs.reverse b).append (.cons a .nil)
theorem VRs.flat {ds : List D} {vs : List V} (h : VRs K β H ds vs) : ∀ n : Nat, VRs K β H (List.replicate n ds).flatten (List.replicate n vs).flatten
  | 0 => .nil
  | n + 1 => by
    rw [List.replicate_succ, List.replicate_succ, List.flatten_cons, List.flatten_cons]
    exact h.append (VRs.flat h n)
theorem VRs.cut {ds : List D} {vs : List V} (h : VRs K β H ds vs) (lo hi : Option Int) : VRs K β H (cutD ds lo hi) (cutV vs lo hi) := by
  unfold cutD cutV
  rw [h.length]
  exact (h.drop _).take _
theorem VRs.atI {ds : List D} {vs : List V} {i : Int} {d : D} (h : VRs K β H ds vs) (e : L2.atI ds i = some d) : ∃ v, L2.atI vs i = some v ∧ VR K β H d v := by
  unfold L2.atI at e ⊢
  rw [← h.length]
  obtain ⟨j, h1, h2⟩ := Option.bind_eq_some_iff.mp e
  obtain ⟨v, h3, h4⟩ := h.get h2
  exact ⟨v, by rw [h1]; exact h3, h4⟩
theorem VRs.isEmpty {ds : List D} {vs : List V} (h : VRs K β H ds vs) : (!ds.isEmpty) = !vs.isEmpty := by
  cases ds with
  | nil => cases h; rfl
  | cons d ds => cases h; rfl
end

section
variable {N : Nm} {β β' : Bt} {S : Sto} {H : Hp}
theorem Sim.lst (s : Sim N β S H) {n : Nat} {a : Addr} {xs : List D} (h : β n = some a) (e : lstAt S n = some xs) : ∃ vs, H a = some (.lst vs) ∧ VRs N.K β H xs vs := by
  unfold lstAt at e
  split at e
  · rename_i ys hy
    cases e
    obtain ⟨a', e', r⟩ := s.obj n _ hy
    rw [h] at e'; cases e'
    exact r
  · cases e
theorem Sim.at (s : Sim N β S H) {n : Nat} {a : Addr} {o : MO} (h : β n = some a) (e : S[n]? = some o) : OR N β H a o := by
  obtain ⟨a', e', r⟩ := s.obj n _ e
  rw [h] at e'; cases e'
  exact r
theorem Sim.seq (s : Sim N β S H) {d : D} {v : V} {xs : List D} (h : VR N.K β H d v) (e : seqAt S d = some xs) : ∃ a vs, v = .ref a ∧ SqL N.K H a vs ∧ VRs N.K β H xs vs := by
  cases d with
  | ref n =>
    cases h with
    | ref hb =>
      obtain ⟨vs, h1, h2⟩ := s.lst hb e
      exact ⟨_, vs, rfl, SqL.of h1, h2⟩
  | rol ys =>
    cases e
    cases h with
    | rol h1 h2 => exact ⟨_, _, rfl, h1.sq, h2⟩
  | _ => cases e
variable {Q : VK}
theorem Want.newL {xs : List D} {vs : List V} (w : Want N (RD N) β H (Mi.new S (.lst xs)) Q) (s : Sim N β S H) (r : VRs N.K β H xs vs) (p : Addr) (hp : H p = none) : Q (.ref p) (upd H p (.lst vs)) :=
  w _ _ _ (.new s hp) (s.new hp ⟨vs, upd_same, r.nxt s (.new s hp)⟩) (.ref (if_pos rfl))
theorem Want.tup {xs : List D} {vs : List V} (w : Want N (RD N) β H (.ok (.tup xs) S) Q) (s : Sim N β S H) (r : VRs N.K β H xs vs) (p : Addr) (hp : H p = none) : Q (.ref p) (upd H p (.tup vs)) :=
  w _ _ _ (.lay hp) (s.lay hp) (.tup (SqT.of upd_same) (r.nxt s (.lay hp)))
end

/-! ### data -/
mutual
theorem toPy_dp {N : Nm} {β : Bt} {S : Sto} {H : Hp} (s : Sim N β S H) : ∀ (k : Nat) (d : D) (v : V) (p : PyData), toPy S k d = some p → VR N.K β H d v → Dp N.K H v p ∧ p.canLay0 = true ∧ p.depth ≤ k
  | 0, _, _, _, h, _ => by simp [toPy] at h
  | k + 1, .non, _, _, h, r => by
    simp only [toPy, Option.some.injEq] at h; subst h; cases r
    exact ⟨.non, by simp [PyData.canLay0], by simp [PyData.depth]⟩
  | k + 1, .bl b, _, _, h, r => by
    simp only [toPy, Option.some.injEq] at h; subst h; cases r
    exact ⟨.bl b, by simp [PyData.canLay0], by simp [PyData.depth]⟩
  | k + 1, .int b, _, _, h, r => by
    simp only [toPy, Option.some.injEq] at h; subst h; cases r
    exact ⟨.int b, by simp [PyData.canLay0], by simp [PyData.depth]⟩
  | k + 1, .str b, _, _, h, r => by
    simp only [toPy] at h
    split at h
    · rename_i hs
      cases h; cases r
      exact ⟨.str b, by simpa [PyData.canLay0] using hs, by simp [PyData.depth]⟩
    · cases h
  | k + 1, .tup xs, _, _, h, r => by
    simp only [toPy, Option.map_eq_some_iff] at h
    obtain ⟨ps, h1, h2⟩ := h
    subst h2
    cases r with
    | tup ra rb =>
      obtain ⟨q1, q2, q3⟩ := toPy_dps s k xs _ ps h1 rb
      exact ⟨.tup ra q1, by simpa [PyData.canLay0] using q2, by simp only [PyData.depth]; omega⟩
  | k + 1, .rol xs, _, _, h, r => by
    simp only [toPy, Option.map_eq_some_iff] at h
    obtain ⟨ps, h1, h2⟩ := h
    subst h2
    cases r with
    | rol ra rb =>
      obtain ⟨q1, q2, q3⟩ := toPy_dps s k xs _ ps h1 rb
      exact ⟨.lst ra.sq q1, by simpa [PyData.canLay0] using q2, by simp only [PyData.depth]; omega⟩
  | k + 1, .ref n, _, _, h, r => by
    simp only [toPy] at h
    split at h
    · rename_i xs hx
      simp only [Option.map_eq_some_iff] at h
      obtain ⟨ps, h1, h2⟩ := h
      subst h2
      cases r with
      | ref hb =>
        obtain ⟨vs, e, rv⟩ := s.at hb hx
        obtain ⟨q1, q2, q3⟩ := toPy_dps s k xs _ ps h1 rv
        exact ⟨.lst (SqL.of e) q1, by simpa [PyData.canLay0] using q2, by simp only [PyData.depth]; omega⟩
    · cases h
  termination_by k d => (k, 0)
theorem toPy_dps {N : Nm} {β : Bt} {S : Sto} {H : Hp} (s : Sim N β S H) : ∀ (k : Nat) (ds : List D) (vs : List V) (ps : List PyData), ds.mapM (toPy S k) = some ps → VRs N.K β H ds vs → DpAll N.K H vs ps ∧ PyData.canLayAll0 ps = true ∧ PyData.depthAll ps ≤ k
  | k, [], _, ps, h, r => by
    simp at h; subst h; cases r
    exact ⟨.nil, by simp [PyData.canLayAll0], by simp [PyData.depthAll]⟩
  | k, d :: ds, _, ps, h, r => by
    rw [List.mapM_cons] at h
    simp only [bind, Option.bind_eq_some_iff] at h
    obtain ⟨p, h1, qs, h2, h3⟩ := h
    cases h3
    cases r with
    | cons ra rb =>
      obtain ⟨a1, a2, a3⟩ := toPy_dp s k d _ p h1 ra
      obtain ⟨b1, b2, b3⟩ := toPy_dps s k ds _ qs h2 rb
      exact ⟨.cons a1 b1, by simp [PyData.canLayAll0, a2, b2], by simp only [PyData.depthAll]; omega⟩
  termination_by k ds => (k, ds.length + 1)
end
theorem shaped_of {p : PyData} {k : Nat} (h1 : p.canLay0 = true) (h2 : p.depth ≤ k) (hk : k ≤ 64) : SeqAt.shaped p = true := by
  show (p.canLay0 && decide (p.depth ≤ 64)) = true
  rw [h1, Bool.true_and, decide_eq_true_eq]
  omega
end Mi

/-! == and != of a dict with a thing of another kind: each side declines. -/
namespace Mi
open PySem L2 PySem.Spec PyProof.Rows
open AutoSeq1 (wpAny_loadPart')
open MeetsSeq SeqAt

section
variable {es : Array DictEntry} {ep : Nat} {dd dd2 : Option Addr} {sl sl2 : Array (Option Value)} {items : Array Value} {n : Nat}
theorem eq_no_int (b : Int) (u : Tok) (l : Addr) : Meets (Builtin.«int.__eq__» ⟨[.int b u, .ref l], []⟩) (fun _ R s => s.heap.get? l = some { cls := .type "dict", dict := dd, data := .dict es ep, slots := sl } ∧ R (.ok (.ret .notImplemented)) s) :=
  .of_wp fun prog w A R s h => by obtain ⟨hp, g, d, tk, os⟩ := s; obtain ⟨hl, h⟩ := h; wp_walk using wpAny_loadPart' hl, wpAny_load hl; exact ⟨_, rfl, h⟩
theorem eq_no_bool (b : Bool) (l : Addr) : Meets (Builtin.«int.__eq__» ⟨[.bool b, .ref l], []⟩) (fun _ R s => s.heap.get? l = some { cls := .type "dict", dict := dd, data := .dict es ep, slots := sl } ∧ R (.ok (.ret .notImplemented)) s) :=
  .of_wp fun prog w A R s h => by obtain ⟨hp, g, d, tk, os⟩ := s; obtain ⟨hl, h⟩ := h; wp_walk using wpAny_loadPart' hl, wpAny_load hl; exact ⟨_, rfl, h⟩
theorem eq_no_str (b : Str) (u : Tok) (l : Addr) : Meets (Builtin.«str.__eq__» ⟨[.str b u, .ref l], []⟩) (fun _ R s => s.heap.get? l = some { cls := .type "dict", dict := dd, data := .dict es ep, slots := sl } ∧ R (.ok (.ret .notImplemented)) s) :=
  .of_wp fun prog w A R s h => by obtain ⟨hp, g, d, tk, os⟩ := s; obtain ⟨hl, h⟩ := h; wp_walk using wpAny_loadPart' hl, wpAny_load hl; exact ⟨_, rfl, h⟩
theorem eq_no_list (b l : Addr) : Meets (Builtin.«list.__eq__» ⟨[.ref b, .ref l], []⟩) (fun _ R s => s.heap.get? b = some { cls := .type "list", dict := dd2, data := .seq items n, slots := sl2 } ∧ s.heap.get? l = some { cls := .type "dict", dict := dd, data := .dict es ep, slots := sl } ∧ R (.ok (.ret .notImplemented)) s) :=
  .of_wp fun prog w A R s h => by obtain ⟨hp, g, d, tk, os⟩ := s; obtain ⟨hb, hl, h⟩ := h; have f1 := F.sub_dict_list; wp_walk using wpAny_loadPart' hl, wpAny_loadPart' hb; exact ⟨_, rfl, h⟩
theorem eq_no_tuple (b l : Addr) : Meets (Builtin.«tuple.__eq__» ⟨[.ref b, .ref l], []⟩) (fun _ R s => s.heap.get? b = some { cls := .type "tuple", dict := dd2, data := .seq items n, slots := sl2 } ∧ s.heap.get? l = some { cls := .type "dict", dict := dd, data := .dict es ep, slots := sl } ∧ R (.ok (.ret .notImplemented)) s) :=
  .of_wp fun prog w A R s h => by obtain ⟨hp, g, d, tk, os⟩ := s; obtain ⟨hb, hl, h⟩ := h; have f1 := F.sub_dict_tuple; wp_walk using wpAny_loadPart' hl, wpAny_loadPart' hb; exact ⟨_, rfl, h⟩
end
section
variable {prog : Program} {w : World} {A : Around} {E : Value → Shared → Prop} {s : Shared}
theorem eq_no_dict {a : Addr} {x : Value} {T : String} {Q : Value → Shared → Prop} (da : s.TypeIs (.ref a) "dict") (hx : s.TypeIs x T) (hs : isSubtype (.type T) (.type "dict") = pure false) (h : Q .notImplemented s) :
    wpAny (model prog w) A (call (.builtin "dict.__eq__") [.ref a, x]) Q E s := by
  refine wpAny_call_entry PySem.F.slot_dict_eq da PySem.F.entry_dict_eq ?_ (PySem.F.args_dict_eq_2 _ _)
  show wpAny _ _ (Builtin.Dict.dictSlotArgs "__eq__" ⟨[.ref a, x], []⟩ >>= _) _ _ s
  refine wpAny_bind ?_
  unfold Builtin.Dict.dictSlotArgs
  refine wpAny_bind (wpAny_notOrdered_dict da ?_)
  show wpAny _ _ (pure (Value.ref a, x)) _ _ s
  refine wpAny_pure (wpAny_bind (wpAny_isInstance (T := T) hx hs ?_))
  simp only [Bool.not_false, if_true]
  exact wpAny_bind (wpAny_rule (wpAny_bind (wpAny_pure (wpAny_pure ⟨_, rfl, h⟩))))
end
section
variable {es : Array DictEntry} {ep : Nat} {dd dd2 : Option Addr} {sl sl2 : Array (Option Value)} {items : Array Value} {n : Nat}
theorem ne_no_int (b : Int) (u : Tok) (l : Addr) : Meets (Builtin.«int.__ne__» ⟨[.int b u, .ref l], []⟩) (fun _ R s => s.heap.get? l = some { cls := .type "dict", dict := dd, data := .dict es ep, slots := sl } ∧ R (.ok (.ret .notImplemented)) s) :=
  .of_wp fun prog w A R s h => by obtain ⟨hp, g, d, tk, os⟩ := s; obtain ⟨hl, h⟩ := h; wp_walk using wpAny_loadPart' hl, wpAny_load hl; exact ⟨_, rfl, h⟩
theorem ne_no_bool (b : Bool) (l : Addr) : Meets (Builtin.«int.__ne__» ⟨[.bool b, .ref l], []⟩) (fun _ R s => s.heap.get? l = some { cls := .type "dict", dict := dd, data := .dict es ep, slots := sl } ∧ R (.ok (.ret .notImplemented)) s) :=
  .of_wp fun prog w A R s h => by obtain ⟨hp, g, d, tk, os⟩ := s; obtain ⟨hl, h⟩ := h; wp_walk using wpAny_loadPart' hl, wpAny_load hl; exact ⟨_, rfl, h⟩
theorem ne_no_str (b : Str) (u : Tok) (l : Addr) : Meets (Builtin.«str.__ne__» ⟨[.str b u, .ref l], []⟩) (fun _ R s => s.heap.get? l = some { cls := .type "dict", dict := dd, data := .dict es ep, slots := sl } ∧ R (.ok (.ret .notImplemented)) s) :=
  .of_wp fun prog w A R s h => by obtain ⟨hp, g, d, tk, os⟩ := s; obtain ⟨hl, h⟩ := h; wp_walk using wpAny_loadPart' hl, wpAny_load hl; exact ⟨_, rfl, h⟩
theorem ne_no_list (b l : Addr) : Meets (Builtin.«list.__ne__» ⟨[.ref b, .ref l], []⟩) (fun _ R s => s.heap.get? b = some { cls := .type "list", dict := dd2, data := .seq items n, slots := sl2 } ∧ s.heap.get? l = some { cls := .type "dict", dict := dd, data := .dict es ep, slots := sl } ∧ R (.ok (.ret .notImplemented)) s) :=
  .of_wp fun prog w A R s h => by obtain ⟨hp, g, d, tk, os⟩ := s; obtain ⟨hb, hl, h⟩ := h; have f1 := F.sub_dict_list; wp_walk using wpAny_loadPart' hl, wpAny_loadPart' hb; exact ⟨_, rfl, h⟩
theorem ne_no_tuple (b l : Addr) : Meets (Builtin.«tuple.__ne__» ⟨[.ref b, .ref l], []⟩) (fun _ R s => s.heap.get? b = some { cls := .type "tuple", dict := dd2, data := .seq items n, slots := sl2 } ∧ s.heap.get? l = some { cls := .type "dict", dict := dd, data := .dict es ep, slots := sl } ∧ R (.ok (.ret .notImplemented)) s) :=
  .of_wp fun prog w A R s h => by obtain ⟨hp, g, d, tk, os⟩ := s; obtain ⟨hb, hl, h⟩ := h; have f1 := F.sub_dict_tuple; wp_walk using wpAny_loadPart' hl, wpAny_loadPart' hb; exact ⟨_, rfl, h⟩
end
section
variable {prog : Program} {w : World} {A : Around} {E : Value → Shared → Prop} {s : Shared}
theorem ne_no_dict {a : Addr} {x : Value} {T : String} {Q : Value → Shared → Prop} (da : s.TypeIs (.ref a) "dict") (hx : s.TypeIs x T) (hs : isSubtype (.type T) (.type "dict") = pure false) (h : Q .notImplemented s) :
    wpAny (model prog w) A (call (.builtin "dict.__ne__") [.ref a, x]) Q E s := by
  refine wpAny_call_entry PySem.F.slot_dict_ne da PySem.F.entry_dict_ne ?_ (PySem.F.args_dict_ne_2 _ _)
  show wpAny _ _ (Builtin.Dict.dictSlotArgs "__ne__" ⟨[.ref a, x], []⟩ >>= _) _ _ s
  refine wpAny_bind ?_
  unfold Builtin.Dict.dictSlotArgs
  refine wpAny_bind (wpAny_notOrdered_dict da ?_)
  show wpAny _ _ (pure (Value.ref a, x)) _ _ s
  refine wpAny_pure (wpAny_bind (wpAny_isInstance (T := T) hx hs ?_))
  simp only [Bool.not_false, if_true]
  exact wpAny_bind (wpAny_rule (wpAny_bind (wpAny_pure (wpAny_pure ⟨_, rfl, h⟩))))
end
/-- what is no dict -/
inductive Oth (s : Shared) : Value → Prop
  | none : Oth s .none
  | bool (b : Bool) : Oth s (.bool b)
  | int (i : Int) (t : Tok) : Oth s (.int i t)
  | str (z : Str) (t : Tok) : Oth s (.str z t)
  | list {l : Addr} {items : Array Value} : s.heap.IsList l items → Oth s (.ref l)
  | tuple {l : Addr} {items : Array Value} : s.heap.IsTuple l items → Oth s (.ref l)
/-- a dict -/
def IsD (s : Shared) (a : Addr) : Prop := ∃ dd es ep sl, s.heap.get? a = some { cls := .type "dict", dict := dd, data := .dict es ep, slots := sl }
section
variable {prog : Program} {w : World} {A : Around} {E : Value → Shared → Prop} {s : Shared}
theorem IsD.ty {a : Addr} (h : IsD s a) : s.TypeIs (.ref a) "dict" := by
  obtain ⟨dd, es, ep, sl, h⟩ := h
  exact ⟨_, h, rfl⟩
theorem IsD.ne_list {a l : Addr} {items : Array Value} (h : IsD s a) (hl : s.heap.IsList l items) : a ≠ l := fun e => by
  subst e
  obtain ⟨dd, es, ep, sl, h⟩ := h
  obtain ⟨o, ho, hc, _⟩ := hl
  rw [h] at ho; cases ho
  exact absurd hc (by simp)
theorem IsD.ne_tuple {a l : Addr} {items : Array Value} (h : IsD s a) (hl : s.heap.IsTuple l items) : a ≠ l := fun e => by
  subst e
  obtain ⟨dd, es, ep, sl, h⟩ := h
  obtain ⟨o, ho, hc, _⟩ := hl
  rw [h] at ho; cases ho
  exact absurd hc (by simp)
theorem rc_do {a : Addr} {x : Value} (da : IsD s a) (o : Oth s x) (hu : A.units < cLine) : RcAt A s (.ref a) x false := fun prog w E Q h => by
  have ta := da.ty
  obtain ⟨dd, es, ep, sl, ha⟩ := id da
  cases o with
  | none =>
    exact rc_eq_decline_or (k := false) ta rfl (by decide) F.sub_NoneType_dict F.slot_dict_eq F.slot_NoneType_eq_refl (fun _ hq => eq_no_dict (T := "NoneType") ta rfl F.sub_NoneType_dict hq)
      (fun _ hq => call_gives F.slot_NoneType_eq_refl rfl F.entry_NoneType_eq (F.args_NoneType_eq_2 _ _) (NoneType___eq___none_ref_0 a) hq) (fun _ hq => wpAny_of_eq (rfl : isSame (.ref a) .none = pure false) hq) (.inr hu) h
  | bool b =>
    exact rc_eq_decline_or (k := false) ta rfl (by decide) F.sub_bool_dict F.slot_dict_eq F.slot_bool_eq_refl (fun _ hq => eq_no_dict (T := "bool") ta rfl F.sub_bool_dict hq)
      (fun _ hq => call_meets F.slot_bool_eq_refl rfl F.entry_int_eq (F.args_int_eq_2 _ _) (eq_no_bool b a) ⟨ha, hq⟩) (fun _ hq => wpAny_of_eq (rfl : isSame (.ref a) (.bool b) = pure false) hq) (.inr hu) h
  | int i t =>
    exact rc_eq_decline_or (k := false) ta (typeIs_int s i t) (by decide) F.sub_int_dict F.slot_dict_eq F.slot_int_eq_refl (fun _ hq => eq_no_dict (T := "int") ta (typeIs_int s i t) F.sub_int_dict hq)
      (fun _ hq => call_meets F.slot_int_eq_refl (typeIs_int s i t) F.entry_int_eq (F.args_int_eq_2 _ _) (eq_no_int i t a) ⟨ha, hq⟩) (fun _ hq => wpAny_of_eq (rfl : isSame (.ref a) (.int i t) = pure false) hq) (.inr hu) h
  | str z t =>
    exact rc_eq_decline_or (k := false) ta (typeIs_str s z t) (by decide) F.sub_str_dict F.slot_dict_eq F.slot_str_eq_refl (fun _ hq => eq_no_dict (T := "str") ta (typeIs_str s z t) F.sub_str_dict hq)
      (fun _ hq => call_meets F.slot_str_eq_refl (typeIs_str s z t) F.entry_str_eq (F.args_str_eq_2 _ _) (eq_no_str z t a) ⟨ha, hq⟩) (fun _ hq => wpAny_of_eq (rfl : isSame (.ref a) (.str z t) = pure false) hq) (.inr hu) h
  | @list l items hl =>
    have ne := da.ne_list hl
    obtain ⟨⟨cls, d2, data, sl2⟩, ho, hc, n, hd⟩ := id hl
    simp only at hc hd
    subst hc hd
    exact rc_eq_decline_or (k := false) ta ⟨_, ho, rfl⟩ (by decide) F.sub_list_dict F.slot_dict_eq F.slot_list_eq_refl (fun _ hq => eq_no_dict (T := "list") ta ⟨_, ho, rfl⟩ F.sub_list_dict hq)
      (fun _ hq => call_meets F.slot_list_eq_refl ⟨_, ho, rfl⟩ F.entry_list_eq (F.args_list_eq_2 _ _) (eq_no_list l a) ⟨ho, ha, hq⟩) (fun _ hq => wpAny_isSame_ref_other ne ha ho (by simp) hq) (.inr hu) h
  | @tuple l items hl =>
    have ne := da.ne_tuple hl
    obtain ⟨⟨cls, d2, data, sl2⟩, ho, hc, n, hd⟩ := id hl
    simp only at hc hd
    subst hc hd
    exact rc_eq_decline_or (k := false) ta ⟨_, ho, rfl⟩ (by decide) F.sub_tuple_dict F.slot_dict_eq F.slot_tuple_eq_refl (fun _ hq => eq_no_dict (T := "tuple") ta ⟨_, ho, rfl⟩ F.sub_tuple_dict hq)
      (fun _ hq => call_meets F.slot_tuple_eq_refl ⟨_, ho, rfl⟩ F.entry_tuple_eq (F.args_tuple_eq_2 _ _) (eq_no_tuple l a) ⟨ho, ha, hq⟩) (fun _ hq => wpAny_isSame_ref_other ne ha ho (by simp) hq) (.inr hu) h
theorem rc_od {a : Addr} {x : Value} (da : IsD s a) (o : Oth s x) (hu : A.units < cLine) : RcAt A s x (.ref a) false := fun prog w E Q h => by
  have ta := da.ty
  obtain ⟨dd, es, ep, sl, ha⟩ := id da
  cases o with
  | none =>
    exact rc_eq_decline_or (k := false) rfl ta (by decide) F.sub_dict_NoneType F.slot_NoneType_eq F.slot_dict_eq_refl (fun _ hq => call_gives F.slot_NoneType_eq rfl F.entry_NoneType_eq (F.args_NoneType_eq_2 _ _) (NoneType___eq___none_ref_0 a) hq)
      (fun _ hq => eq_no_dict (T := "NoneType") ta rfl F.sub_NoneType_dict hq) (fun _ hq => wpAny_of_eq (rfl : isSame .none (.ref a) = pure false) hq) (.inr hu) h
  | bool b =>
    exact rc_eq_decline_or (k := false) rfl ta (by decide) F.sub_dict_bool F.slot_bool_eq F.slot_dict_eq_refl (fun _ hq => call_meets F.slot_bool_eq rfl F.entry_int_eq (F.args_int_eq_2 _ _) (eq_no_bool b a) ⟨ha, hq⟩)
      (fun _ hq => eq_no_dict (T := "bool") ta rfl F.sub_bool_dict hq) (fun _ hq => wpAny_of_eq (rfl : isSame (.bool b) (.ref a) = pure false) hq) (.inr hu) h
  | int i t =>
    exact rc_eq_decline_or (k := false) (typeIs_int s i t) ta (by decide) F.sub_dict_int F.slot_int_eq F.slot_dict_eq_refl (fun _ hq => call_meets F.slot_int_eq (typeIs_int s i t) F.entry_int_eq (F.args_int_eq_2 _ _) (eq_no_int i t a) ⟨ha, hq⟩)
      (fun _ hq => eq_no_dict (T := "int") ta (typeIs_int s i t) F.sub_int_dict hq) (fun _ hq => wpAny_of_eq (rfl : isSame (.int i t) (.ref a) = pure false) hq) (.inr hu) h
  | str z t =>
    exact rc_eq_decline_or (k := false) (typeIs_str s z t) ta (by decide) F.sub_dict_str F.slot_str_eq F.slot_dict_eq_refl (fun _ hq => call_meets F.slot_str_eq (typeIs_str s z t) F.entry_str_eq (F.args_str_eq_2 _ _) (eq_no_str z t a) ⟨ha, hq⟩)
      (fun _ hq => eq_no_dict (T := "str") ta (typeIs_str s z t) F.sub_str_dict hq) (fun _ hq => wpAny_of_eq (rfl : isSame (.str z t) (.ref a) = pure false) hq) (.inr hu) h
  | @list l items hl =>
    have ne := da.ne_list hl
    have ne := ne.symm
    obtain ⟨⟨cls, d2, data, sl2⟩, ho, hc, n, hd⟩ := id hl
    simp only at hc hd
    subst hc hd
    exact rc_eq_decline_or (k := false) ⟨_, ho, rfl⟩ ta (by decide) F.sub_dict_list F.slot_list_eq F.slot_dict_eq_refl (fun _ hq => call_meets F.slot_list_eq ⟨_, ho, rfl⟩ F.entry_list_eq (F.args_list_eq_2 _ _) (eq_no_list l a) ⟨ho, ha, hq⟩)
      (fun _ hq => eq_no_dict (T := "list") ta ⟨_, ho, rfl⟩ F.sub_list_dict hq) (fun _ hq => wpAny_isSame_ref_other' ne ho ha (by simp) hq) (.inr hu) h
  | @tuple l items hl =>
    have ne := da.ne_tuple hl
    have ne := ne.symm
    obtain ⟨⟨cls, d2, data, sl2⟩, ho, hc, n, hd⟩ := id hl
    simp only at hc hd
    subst hc hd
    exact rc_eq_decline_or (k := false) ⟨_, ho, rfl⟩ ta (by decide) F.sub_dict_tuple F.slot_tuple_eq F.slot_dict_eq_refl (fun _ hq => call_meets F.slot_tuple_eq ⟨_, ho, rfl⟩ F.entry_tuple_eq (F.args_tuple_eq_2 _ _) (eq_no_tuple l a) ⟨ho, ha, hq⟩)
      (fun _ hq => eq_no_dict (T := "tuple") ta ⟨_, ho, rfl⟩ F.sub_tuple_dict hq) (fun _ hq => wpAny_isSame_ref_other' ne ho ha (by simp) hq) (.inr hu) h
theorem rn_do {a : Addr} {x : Value} (da : IsD s a) (o : Oth s x) (hu : A.units < cLine) : RcNeAt A s (.ref a) x true := fun prog w E Q h => by
  have ta := da.ty
  obtain ⟨dd, es, ep, sl, ha⟩ := id da
  cases o with
  | none =>
    exact rc_ne_decline_or (k := false) ta rfl (by decide) F.sub_NoneType_dict F.slot_dict_ne F.slot_NoneType_ne_refl (fun _ hq => ne_no_dict (T := "NoneType") ta rfl F.sub_NoneType_dict hq)
      (fun _ hq => call_gives F.slot_NoneType_ne_refl rfl F.entry_NoneType_ne (F.args_NoneType_ne_2 _ _) (NoneType___ne___none_ref_0 a) hq) (fun _ hq => wpAny_of_eq (rfl : isSame (.ref a) .none = pure false) hq) (.inr hu) h
  | bool b =>
    exact rc_ne_decline_or (k := false) ta rfl (by decide) F.sub_bool_dict F.slot_dict_ne F.slot_bool_ne_refl (fun _ hq => ne_no_dict (T := "bool") ta rfl F.sub_bool_dict hq)
      (fun _ hq => call_meets F.slot_bool_ne_refl rfl F.entry_int_ne (F.args_int_ne_2 _ _) (ne_no_bool b a) ⟨ha, hq⟩) (fun _ hq => wpAny_of_eq (rfl : isSame (.ref a) (.bool b) = pure false) hq) (.inr hu) h
  | int i t =>
    exact rc_ne_decline_or (k := false) ta (typeIs_int s i t) (by decide) F.sub_int_dict F.slot_dict_ne F.slot_int_ne_refl (fun _ hq => ne_no_dict (T := "int") ta (typeIs_int s i t) F.sub_int_dict hq)
      (fun _ hq => call_meets F.slot_int_ne_refl (typeIs_int s i t) F.entry_int_ne (F.args_int_ne_2 _ _) (ne_no_int i t a) ⟨ha, hq⟩) (fun _ hq => wpAny_of_eq (rfl : isSame (.ref a) (.int i t) = pure false) hq) (.inr hu) h
  | str z t =>
    exact rc_ne_decline_or (k := false) ta (typeIs_str s z t) (by decide) F.sub_str_dict F.slot_dict_ne F.slot_str_ne_refl (fun _ hq => ne_no_dict (T := "str") ta (typeIs_str s z t) F.sub_str_dict hq)
      (fun _ hq => call_meets F.slot_str_ne_refl (typeIs_str s z t) F.entry_str_ne (F.args_str_ne_2 _ _) (ne_no_str z t a) ⟨ha, hq⟩) (fun _ hq => wpAny_of_eq (rfl : isSame (.ref a) (.str z t) = pure false) hq) (.inr hu) h
  | @list l items hl =>
    have ne := da.ne_list hl
    obtain ⟨⟨cls, d2, data, sl2⟩, ho, hc, n, hd⟩ := id hl
    simp only at hc hd
    subst hc hd
    exact rc_ne_decline_or (k := false) ta ⟨_, ho, rfl⟩ (by decide) F.sub_list_dict F.slot_dict_ne F.slot_list_ne_refl (fun _ hq => ne_no_dict (T := "list") ta ⟨_, ho, rfl⟩ F.sub_list_dict hq)
      (fun _ hq => call_meets F.slot_list_ne_refl ⟨_, ho, rfl⟩ F.entry_list_ne (F.args_list_ne_2 _ _) (ne_no_list l a) ⟨ho, ha, hq⟩) (fun _ hq => wpAny_isSame_ref_other ne ha ho (by simp) hq) (.inr hu) h
  | @tuple l items hl =>
    have ne := da.ne_tuple hl
    obtain ⟨⟨cls, d2, data, sl2⟩, ho, hc, n, hd⟩ := id hl
    simp only at hc hd
    subst hc hd
    exact rc_ne_decline_or (k := false) ta ⟨_, ho, rfl⟩ (by decide) F.sub_tuple_dict F.slot_dict_ne F.slot_tuple_ne_refl (fun _ hq => ne_no_dict (T := "tuple") ta ⟨_, ho, rfl⟩ F.sub_tuple_dict hq)
      (fun _ hq => call_meets F.slot_tuple_ne_refl ⟨_, ho, rfl⟩ F.entry_tuple_ne (F.args_tuple_ne_2 _ _) (ne_no_tuple l a) ⟨ho, ha, hq⟩) (fun _ hq => wpAny_isSame_ref_other ne ha ho (by simp) hq) (.inr hu) h
theorem rn_od {a : Addr} {x : Value} (da : IsD s a) (o : Oth s x) (hu : A.units < cLine) : RcNeAt A s x (.ref a) true := fun prog w E Q h => by
  have ta := da.ty
  obtain ⟨dd, es, ep, sl, ha⟩ := id da
  cases o with
  | none =>
    exact rc_ne_decline_or (k := false) rfl ta (by decide) F.sub_dict_NoneType F.slot_NoneType_ne F.slot_dict_ne_refl (fun _ hq => call_gives F.slot_NoneType_ne rfl F.entry_NoneType_ne (F.args_NoneType_ne_2 _ _) (NoneType___ne___none_ref_0 a) hq)
      (fun _ hq => ne_no_dict (T := "NoneType") ta rfl F.sub_NoneType_dict hq) (fun _ hq => wpAny_of_eq (rfl : isSame .none (.ref a) = pure false) hq) (.inr hu) h
  | bool b =>
    exact rc_ne_decline_or (k := false) rfl ta (by decide) F.sub_dict_bool F.slot_bool_ne F.slot_dict_ne_refl (fun _ hq => call_meets F.slot_bool_ne rfl F.entry_int_ne (F.args_int_ne_2 _ _) (ne_no_bool b a) ⟨ha, hq⟩)
      (fun _ hq => ne_no_dict (T := "bool") ta rfl F.sub_bool_dict hq) (fun _ hq => wpAny_of_eq (rfl : isSame (.bool b) (.ref a) = pure false) hq) (.inr hu) h
  | int i t =>
    exact rc_ne_decline_or (k := false) (typeIs_int s i t) ta (by decide) F.sub_dict_int F.slot_int_ne F.slot_dict_ne_refl (fun _ hq => call_meets F.slot_int_ne (typeIs_int s i t) F.entry_int_ne (F.args_int_ne_2 _ _) (ne_no_int i t a) ⟨ha, hq⟩)
      (fun _ hq => ne_no_dict (T := "int") ta (typeIs_int s i t) F.sub_int_dict hq) (fun _ hq => wpAny_of_eq (rfl : isSame (.int i t) (.ref a) = pure false) hq) (.inr hu) h
  | str z t =>
    exact rc_ne_decline_or (k := false) (typeIs_str s z t) ta (by decide) F.sub_dict_str F.slot_str_ne F.slot_dict_ne_refl (fun _ hq => call_meets F.slot_str_ne (typeIs_str s z t) F.entry_str_ne (F.args_str_ne_2 _ _) (ne_no_str z t a) ⟨ha, hq⟩)
      (fun _ hq => ne_no_dict (T := "str") ta (typeIs_str s z t) F.sub_str_dict hq) (fun _ hq => wpAny_of_eq (rfl : isSame (.str z t) (.ref a) = pure false) hq) (.inr hu) h
  | @list l items hl =>
    have ne := da.ne_list hl
    have ne := ne.symm
    obtain ⟨⟨cls, d2, data, sl2⟩, ho, hc, n, hd⟩ := id hl
    simp only at hc hd
    subst hc hd
    exact rc_ne_decline_or (k := false) ⟨_, ho, rfl⟩ ta (by decide) F.sub_dict_list F.slot_list_ne F.slot_dict_ne_refl (fun _ hq => call_meets F.slot_list_ne ⟨_, ho, rfl⟩ F.entry_list_ne (F.args_list_ne_2 _ _) (ne_no_list l a) ⟨ho, ha, hq⟩)
      (fun _ hq => ne_no_dict (T := "list") ta ⟨_, ho, rfl⟩ F.sub_list_dict hq) (fun _ hq => wpAny_isSame_ref_other' ne ho ha (by simp) hq) (.inr hu) h
  | @tuple l items hl =>
    have ne := da.ne_tuple hl
    have ne := ne.symm
    obtain ⟨⟨cls, d2, data, sl2⟩, ho, hc, n, hd⟩ := id hl
    simp only at hc hd
    subst hc hd
    exact rc_ne_decline_or (k := false) ⟨_, ho, rfl⟩ ta (by decide) F.sub_dict_tuple F.slot_tuple_ne F.slot_dict_ne_refl (fun _ hq => call_meets F.slot_tuple_ne ⟨_, ho, rfl⟩ F.entry_tuple_ne (F.args_tuple_ne_2 _ _) (ne_no_tuple l a) ⟨ho, ha, hq⟩)
      (fun _ hq => ne_no_dict (T := "tuple") ta ⟨_, ho, rfl⟩ F.sub_tuple_dict hq) (fun _ hq => wpAny_isSame_ref_other' ne ho ha (by simp) hq) (.inr hu) h
/-- they are not the same -/
theorem ne_do {a : Addr} {x : Value} (da : IsD s a) (o : Oth s x) : (Value.ref a == x) = false ∧ (x == Value.ref a) = false := by
  cases o with
  | none => exact ⟨rfl, rfl⟩
  | bool b => exact ⟨rfl, rfl⟩
  | int i t => exact ⟨rfl, rfl⟩
  | str z t => exact ⟨rfl, rfl⟩
  | list hl =>
    have := da.ne_list hl
    exact ⟨beq_false_of_ne fun e => this (by injection e), beq_false_of_ne fun e => this (by injection e with e; exact e.symm)⟩
  | tuple hl =>
    have := da.ne_tuple hl
    exact ⟨beq_false_of_ne fun e => this (by injection e), beq_false_of_ne fun e => this (by injection e with e; exact e.symm)⟩
theorem eq_do {a : Addr} {x : Value} (da : IsD s a) (o : Oth s x) (hu : A.units < cLine) : EqAt A s (.ref a) x false := fun prog w E Q hq => by
  unfold eqBool
  refine wpAny_holding ?_
  rw [if_neg (by rw [(ne_do da o).1]; exact Bool.false_ne_true)]
  exact wpAny_bind (rc_do da o hu _ _ _ _ (wpAny_truthy_bool hq))
theorem eq_od {a : Addr} {x : Value} (da : IsD s a) (o : Oth s x) (hu : A.units < cLine) : EqAt A s x (.ref a) false := fun prog w E Q hq => by
  unfold eqBool
  refine wpAny_holding ?_
  rw [if_neg (by rw [(ne_do da o).2]; exact Bool.false_ne_true)]
  have o2 := o
  cases o <;> exact wpAny_bind (rc_od da o2 hu _ _ _ _ (wpAny_truthy_bool hq))
end
section
variable {X : Cx} {pins : List (Addr × Obj)} {σ : L2.St} {H : Hp} {s : Shared} {N : Nm} {β : Bt} {S : Sto} {d e : D} {v v' : V} {u u' : Value}
theorem oth_rel (I : Inv X pins σ H s) (hK : X.K = N.K) (sm : Sim N β S H) (r : VR N.K β H d v) (h : dKind S d = some false) (ru : RelV v u) : Oth s u := by
  rw [← hK] at r
  cases r with
  | non => cases ru; exact .none
  | bl b => cases ru; exact .bool b
  | int i => obtain ⟨t, rfl⟩ := ru; exact .int i t
  | str z => obtain ⟨t, rfl⟩ := ru; exact .str z t
  | tup h1 h2 =>
    cases ru
    obtain ⟨its, rv, y, _⟩ := I.tuple h1
    exact .tuple y
  | rol h1 h2 =>
    cases ru
    obtain ⟨its, rv, y, _⟩ := I.list h1.sq
    exact .list y.isList
  | @ref n a hb =>
    cases ru
    simp only [dKind] at h
    split at h
    · rename_i xs hx
      obtain ⟨vs, e1, _⟩ := sm.at hb hx
      obtain ⟨its, rv, y, _⟩ := I.list (SqL.of e1)
      exact .list y.isList
    · cases h
    · cases h
theorem isd_rel (I : Inv X pins σ H s) (sm : Sim N β S H) (r : VR N.K β H d v) (h : dKind S d = some true) (ru : RelV v u) : ∃ a, v = .ref a ∧ u = .ref a ∧ IsD s a := by
  cases r with
  | @ref n a hb =>
    cases ru
    refine ⟨a, rfl, rfl, ?_⟩
    simp only [dKind] at h
    split at h
    · cases h
    · rename_i kvs hx
      obtain ⟨ks, e1, _⟩ := sm.at hb hx
      obtain ⟨_, _, vs, _, o, es, ep, ho, hc, hd, _⟩ := L2.dk_of I.hok e1
      obtain ⟨cls, d2, data, sl2⟩ := o
      have hc' := hc.1
      simp only at hc' hd
      subst hc' hd
      exact ⟨_, _, _, _, ho⟩
    · cases h
  | _ => cases h
end
end Mi

/-! list(reversed(a list)); d.update(a dict). -/
namespace Mi
open PySem L2 PySem.Spec PyProof.Rows
section
variable {prog : Program} {w : World} {A : Around} {E : Value → Shared → Prop} {s : Shared} {R : Result → Shared → Prop}
/-- a new list takes in what a reversed list's iterator gives -/
theorem ext_rev {it l S : Addr} {items : Array Value} {res : Value} {c0 : Nat} (hh : A.handled = none) (hit : s.heap.IsRevIter it l ((items.size : Int) - 1)) (hl : s.heap.IsList l items) (hne : l ≠ it) (hn : items.size ≤ sizeLine) (hSi : S ≠ it) (hSl : S ≠ l)
    (hS : s.heap.get? S = some { cls := .type "list", data := .seq #[] c0 })
    (hR : ∀ s' acc' c', Moved [S, it] (fun a b => b = a) s s' → s'.heap.get? S = some { cls := .type "list", dict := none, data := .seq acc' c', slots := #[] } → ItemsOf (fun i v => items[items.size - 1 - i]? = some v) acc' items.size → R (.ok (.ret res)) s') :
    wpAny (model prog w) A.in1 (Builtin.List.listExtendWith (.ref S) (.ref it) res)
      (fun fin s' => match fin with | .done f => R (.ok f) s' | .again c' => c'.quiet = true ∧ codeAny (model prog w) A c' R s') (fun e s' => R (.error e) s') s := by
  have W := (Walks.listRev (prog := prog) (w := w) (A := A.in1) hh it l hne items).toS
  have hSf : S ∉ [it, l] := by simp only [List.mem_cons, List.not_mem_nil, or_false, not_or]; exact ⟨hSi, hSl⟩
  have hT : s.TypeIs (.ref it) "list_reverseiterator" := hit.typeIs
  have h1 : Builtin.List.listSameRef (.ref S) (.ref it) = false := by simp [Builtin.List.listSameRef, hSi]
  unfold Builtin.List.listExtendWith
  refine wpAny_bind (wpAny_typeOf hT ?_)
  rw [if_neg (by rw [h1]; decide)]
  refine wpAny_bind (wpAny_pyIter_revIter hit (wpAny_bind (wpAny_holding ?_)))
  unfold Builtin.List.listLengthHint
  refine wpAny_bind (wpAny_specialOf hT RT.nolen_lri ?_)
  show wpAny _ A.in1 (specialOf (Value.ref it) (Str.ofString "__length_hint__") >>= _) _ _ _
  refine wpAny_bind (wpAny_specialOf hT RT.hint_lri ?_)
  generalize hid : ("list_reverseiterator.__length_hint__" : String) = id0
  wp_delta
  rw [show splitId id0 = some ("list_reverseiterator", "__length_hint__") from by subst hid; decide +kernel]
  subst hid
  refine wpAny_bind (wpAny_isInstance (b := true) hT (by rw [isSubtype_type]; kernel_rfl) (wpAny_pure ?_))
  rw [if_neg (by decide)]
  have e0 : ((items.size : Nat) : Int) - 1 - ((0 : Nat) : Int) = (items.size : Int) - 1 := by omega
  exact wpAny_pure ⟨plainId_quiet F.plain_extend_loop _, codeAny_extend_loopS W hn _ hSf _ items.size 0 _ _ _ rfl (Nat.zero_le _) ⟨Nat.zero_le _, by rw [e0]; exact hit, hl⟩ hS (ItemsOf.nil _) fun s' acc' c' hm hS' hacc => hR s' acc' c' hm hS' hacc⟩
theorem init_rev {it l S : Addr} {items : Array Value} (hh : A.handled = none) (hit : s.heap.IsRevIter it l ((items.size : Int) - 1)) (hl : s.heap.IsList l items) (hne : l ≠ it) (hn : items.size ≤ sizeLine) (hSi : S ≠ it) (hSl : S ≠ l)
    (hS : s.heap.get? S = some { cls := .type "list", data := .seq #[] })
    (hR : ∀ s' acc' c', Moved [S, it] (fun a b => b = a) s s' → s'.heap.get? S = some { cls := .type "list", dict := none, data := .seq acc' c', slots := #[] } → ItemsOf (fun i v => items[items.size - 1 - i]? = some v) acc' items.size → R (.ok (.ret .none)) s') :
    wpAny (model prog w) A.in1 (Builtin.«list.__init__» ⟨[.ref S, .ref it], []⟩)
      (fun fin s' => match fin with | .done f => R (.ok f) s' | .again c' => c'.quiet = true ∧ codeAny (model prog w) A c' R s') (fun e s' => R (.error e) s') s := by
  show wpAny _ A.in1 (do let old ← Builtin.List.listItems (.ref S); Builtin.List.listUpdate (.ref S) (fun _ => #[]); letGo old.toList.reverse; Builtin.List.listExtendWith (.ref S) (.ref it) .none) _ _ s
  refine wpAny_bind ?_
  unfold Builtin.List.listItems
  refine wpAny_bind (wpAny_seqItems hS rfl (wpAny_pure ?_))
  show wpAny _ A.in1 (updateSeq S (fun _ => #[]) >>= fun _ => letGo (#[] : Array Value).toList.reverse >>= fun _ => Builtin.List.listExtendWith (.ref S) (.ref it) .none) _ _ s
  refine wpAny_bind (wpAny_updateSeq hS rfl (wpAny_bind (wpAny_letGo ?_)))
  have keep : ∀ b o, b ≠ S → s.heap.get? b = some o → (s.heap.update S (Obj.mapSeq (fun _ => (#[] : Array Value)))).get? b = some o := fun b o hb e => (Heap.get?_update_other _ _ (Ne.symm hb)).trans e
  refine ext_rev (s := { s with heap := s.heap.update S (Obj.mapSeq (fun _ => (#[] : Array Value))) }) hh (hit.at fun o e => keep _ _ hSi.symm e) (hl.at fun o e => keep _ _ hSl.symm e) hne hn hSi hSl (Heap.get?_update_self _ hS rfl) fun s' acc' c' hm hS' hacc => ?_
  have m0 : Moved [S, it] (fun a b => b = a) s { s with heap := s.heap.update S (Obj.mapSeq (fun _ => (#[] : Array Value))) } := by
    refine Moved.then_heap (wr := [S, it]) (Moved.refl (G := fun a b => b = a) (fun _ => rfl)) (Nat.le_refl _) (fun b o hb e => keep b o (fun h => hb ?_) e)
    rw [h]; exact List.mem_cons_self
  exact hR s' acc' c' (Moved.trans (fun _ _ _ a b => Eq.trans b a) m0 hm) hS' hacc
theorem call_rev {it l : Addr} {items : Array Value} {Q : Value → Shared → Prop} (hh : A.handled = none) (hit : s.heap.IsRevIter it l ((items.size : Int) - 1)) (hl : s.heap.IsList l items) (hne : l ≠ it) (hn : items.size ≤ sizeLine)
    (hQ : ∀ (s' : Shared) (acc : Array Value) (c : Nat), Moved [s.heap.objs.size, it] (fun a b => b = a) { s with heap := s.heap.push { cls := .type "list", data := .seq #[] } } s' →
      s'.heap.get? s.heap.objs.size = some { cls := .type "list", dict := none, data := .seq acc c, slots := #[] } → ItemsOf (fun i v => items[items.size - 1 - i]? = some v) acc items.size → Q (.ref s.heap.objs.size) s') :
    wpAny (model prog w) A (call (.type "list") [.ref it]) Q E s := by
  refine callType_codes (Q₁ := fun obj s₁ => obj = .ref s.heap.objs.size ∧ s₁ = { s with heap := s.heap.push { cls := .type "list", data := .seq #[] } }) F.called_list (F.typeCall_list_1 _) F.entry_list_init
    (code_list_new _ ⟨rfl, rfl⟩) fun obj s₁ h₁ => ?_
  obtain ⟨rfl, rfl⟩ := h₁
  obtain ⟨oi, hoi, _⟩ := id hit
  obtain ⟨ol, hol, _⟩ := id hl
  have hS : (s.heap.push { cls := .type "list", data := .seq #[] }).get? s.heap.objs.size = some { cls := .type "list", data := .seq #[] } := Heap.get?_push_size _ rfl
  refine ⟨⟨_, hS, rfl⟩, F.args_list_init_2 _ _, init_rev (s := { s with heap := s.heap.push { cls := .type "list", data := .seq #[] } }) hh (hit.at fun o e => Heap.get?_push_of_some _ e) (hl.push _) hne hn (Nat.ne_of_gt (Heap.lt_size hoi)) (Nat.ne_of_gt (Heap.lt_size hol)) hS fun s' acc' c' hm hS' hacc => ?_⟩
  exact ⟨rfl, hQ s' acc' c' hm hS' hacc⟩
end
/-- list(reversed(x)), x a list: a new list -/
def tLstRev (K : PySem.W.Frag) (te : TE) : TE := fun σ H Q => te σ H fun v H1 => ∃ (a : Addr) (xs : List V), v = .ref a ∧ SqL K H1 a xs ∧ ∀ q, H1 q = none → Q (.ref q) (upd H1 q (.lst xs.reverse))
section
variable {X : Cx}
theorem pe_lstRev {e : Expr} {te : TE} {p p2 pos pos2 : Pos} (hc : X.calm = true) (hg : Gl X "list") (hm : X.mg "list" = none) (hg2 : Gl X "reversed") (hm2 : X.mg "reversed" = none) (he : PE X e te)
    (hs : starEach [e] X.env = (false, eval e X.env) :: starEach [] X.env := by rfl)
    (hs2 : starEach [.Call (.Name "reversed" p2) [e] [] pos2] X.env = (false, eval (.Call (.Name "reversed" p2) [e] [] pos2) X.env) :: starEach [] X.env := by rfl) :
    PE X (.Call (.Name "list" p) [.Call (.Name "reversed" p2) [e] [] pos2] [] pos) (tLstRev X.K te) := by
  refine ⟨fun pins s σ H Q I h => ?_⟩
  refine Call_ (ld_blt I hg hm boot_list (PyProof.Rows.callWith_type1 (args_cons (Call_ (ld_blt I hg2 hm2 PyProof.Rows.boot_reversed (PyProof.Rows.callWith_type1 (args_cons (thn (he.run pins s σ H _ I h) fun u s1 ⟨v, H1, I1, r1, q1⟩ => args_nil ?_) hs) hs rfl))) hs2) hs2 rfl))
  obtain ⟨a, xs, ev, hq, q⟩ := q1
  subst ev
  obtain rfl : u = Value.ref a := r1
  obtain ⟨its, rv, p', hz⟩ := I1.list hq
  refine call_reversed_list p'.isList (args_nil ?_)
  have k0 : ∀ b o, s1.heap.get? b = some o → (s1.heap.push (revObj a ((its.toArray.size : Int) - 1))).get? b = some o := fun b o e => Heap.get?_push_of_some _ e
  have I2 : Inv X pins σ H1 { s1 with heap := s1.heap.push (revObj a ((its.toArray.size : Int) - 1)) } := I1.kept (t' := s1.toks) k0
  obtain ⟨f0, f1, f2, f3, f4, f5⟩ := I1.fpOk (H' := H1) (b := s1.heap.objs.size) (Nat.le_refl _) (I1.hok.fresh (Nat.le_refl _))
  have hl := p'.isList
  obtain ⟨ol, hol, _⟩ := id hl
  have hne : a ≠ s1.heap.objs.size := Nat.ne_of_lt (Heap.lt_size hol)
  have hn : its.toArray.size ≤ sizeLine := by rw [List.size_toArray, ← rv.length]; exact hz
  generalize hs3 : ({ s1 with heap := s1.heap.push (revObj a ((its.toArray.size : Int) - 1)) } : Shared) = s3 at I2
  have hsz3 : s3.heap.objs.size = s1.heap.objs.size + 1 := by rw [← hs3]; exact Heap.size_push ..
  have hit3 : s3.heap.IsRevIter s1.heap.objs.size a ((its.toArray.size : Int) - 1) := by rw [← hs3]; exact ⟨_, Heap.get?_push_size _ rfl, rfl, rfl⟩
  have hl3 : s3.heap.IsList a its.toArray := by rw [← hs3]; exact hl.push _
  refine call_rev (I1.ok.hd hc) hit3 hl3 hne hn fun s' acc c hmv hS' hacc => ?_
  rw [Moved.eq_with hmv]
  have hk : ∀ b o, b ≠ s1.heap.objs.size → s3.heap.get? b = some o → s'.heap.get? b = some o := fun b o hb e => hmv.heap b o (fun hmem => by
    rcases List.mem_cons.mp hmem with e' | hmem
    · exact absurd (Heap.lt_size e) (by rw [e']; exact Nat.lt_irrefl _)
    · exact hb (List.mem_singleton.mp hmem)) (Heap.get?_push_of_some _ e)
  have hfr : H1 s3.heap.objs.size = none := I1.hok.fresh (by rw [hsz3]; omega)
  have new : ObjOk X.prog X.w (upd H1 s3.heap.objs.size (.lst xs.reverse)) s'.heap s3.heap.objs.size (.lst xs.reverse) :=
    ⟨by rw [List.length_reverse]; exact hz, acc.toList, c, RT.vals_rev rv hacc, by rw [Array.toArray_toList]; exact hS'⟩
  refine ⟨.ref s3.heap.objs.size, upd H1 s3.heap.objs.size (.lst xs.reverse), ?_, rfl, q _ hfr⟩
  exact I2.turnedNew (t' := s'.toks) (ch := [s1.heap.objs.size]) (fun b o hb e => hk b o (fun z => hb (by simp [z])) e) (fun b hb => by
    rw [List.mem_singleton] at hb
    subst hb
    exact ⟨f0, f1, f2, f3, f4, f5⟩) (Nat.le_refl _) new
/-- d.update(o), two dicts -/
theorem mt_update : MtR X "dict.update" (fun x vs H Q => ∃ (d o : Addr) (kvs more : List (Key × V)), x = .ref d ∧ vs = [.ref o] ∧ d ≠ o ∧ H d = some (.dK kvs) ∧ H o = some (.dK more) ∧ kvs.length + more.length ≤ sizeLine ∧ Q .non (upd H d (.dK (mergeK kvs more)))) := by
  intro pins s σ H x vs v us Q I rx rv h
  obtain ⟨d, o, kvs, more, rfl, rfl, hne, h1, h2, hz, q⟩ := h
  cases rx
  obtain ⟨u, rfl, ru⟩ := rv.one
  cases ru
  obtain ⟨z1, hd1, ks, r1, d1⟩ := dk_of I.hok h1
  obtain ⟨z2, hd2, ms, r2, d2⟩ := dk_of I.hok h2
  have l1 := r1.length
  have l2 := r2.length
  refine call_meetsIn PySem.F.slot_dict_update d1.typeIs PySem.F.entry_dict_update (PySem.F.args_dict_update_2 _ _) (meets_dict_update (mixKind X.prog X.w) d o hne hd2) ⟨ks, ms, d1, d2, by omega, fun h' e1 e2 hs => ?_⟩
  have hl : (mergeK kvs more).length ≤ sizeLine := by
    have a := (r2.merge r1 : KV (mergeK kvs more) (merged ks ms)).length
    have b := merged_length_le ks ms
    omega
  have he : ∃ q, h'.get? d = some q := let ⟨q, _, _, hq, _⟩ := e1; ⟨q, hq⟩
  exact ⟨.non, _, d_write I (by rw [h1]; exact True.intro) hs he (dk_new hl hd1 (r2.merge r1) e1), rfl, q⟩
/-- a tuple once is that tuple -/
theorem tup_one (l : Addr) (items : Array Value) (n : Nat) (dd : Option Addr) (sl : Array (Option Value)) (u : Tok) :
    Meets (Builtin.«tuple.__mul__» ⟨[.ref l, .int 1 u], []⟩) (fun _ R s => s.heap.get? l = some { cls := .type "tuple", dict := dd, data := .seq items n, slots := sl } ∧ R (.ok (.ret (.ref l))) s) :=
  .of_wp fun prog w A R s h => by
    obtain ⟨hp, g, d, tk, os⟩ := s
    obtain ⟨hl, h⟩ := h
    have f1 := AutoSeq1.idx_int
    have hT : (⟨hp, g, d, tk, os⟩ : Shared).TypeIs (.ref l) "tuple" := ⟨_, hl, rfl⟩
    have c1 : (items.isEmpty || (1 : Int) == 1) = true := by simp
    wp_walk using AutoSeq1.wpAny_loadPart' hl, wpAny_typeOf hT
    exact ⟨_, rfl, h⟩
theorem op_rep1 : OpR X (binaryOp .Mult) (fun x y H Q => ∃ (l : Addr) (xs : List V), x = .ref l ∧ y = .int 1 ∧ SqT X.K H l xs ∧ Q (.ref l) H) := by
  intro pins s σ H x y v u Q I rx ry h
  obtain ⟨l, xs, rfl, rfl, hT, q⟩ := h
  cases rx
  obtain ⟨t, rfl⟩ := ry
  obtain ⟨its, r, ⟨⟨cls, dd, data, sl⟩, ho, hc, n, hd⟩, hs⟩ := I.tuple hT
  simp only at hc hd
  subst hc hd
  exact wpAny_binaryOp_repeat_ref (T := "tuple") (U := "int") (by decide) ⟨_, ho, rfl⟩ (fun s' => typeIs_int s' 1 t) noFill_tuple_mul F.fills_int_mul F.slot_int_rmul repeat_tuple F.slot_int_index.lookup
    (call_meets F.slot_int_rmul (typeIs_int s 1 t) F.entry_int_rmul (F.args_int_rmul_2 _ _) (int_rmul_tuple 1 t l its.toArray n dd sl)
      ⟨ho, rfl, ⟨_, ho, rfl⟩, call_meets F.slot_tuple_mul ⟨_, ho, rfl⟩ F.entry_tuple_mul (F.args_tuple_mul_2 _ _) (tup_one l its.toArray n dd sl t) ⟨ho, ⟨.ref l, H, I, rfl, q⟩⟩⟩)
end
end Mi

namespace Mi
open PySem L2 PySem.Spec PyProof.Rows

theorem div_ok {i j : Int} (h : 0 < j ∧ j < 18446744073709551616) : CDivW i j := by
  refine ⟨h.1, ?_⟩
  have h2 : j.natAbs < 2 ^ 64 := by have := h.1; have := h.2; omega
  have h3 : j.natAbs ≠ 0 := by have := h.1; omega
  have := (Nat.log2_lt h3).mpr h2
  omega
section
variable {X : Cx} {N : Nm} {pins : List (Addr × Obj)} {σ : L2.St} {H : Hp} {s : Shared}
theorem op_addR (hK : X.K = N.K) : OpR X (binaryOp .Add) (r2 N addD) := by
  have hcat := op_catA (X := X)
  rw [hK] at hcat
  intro pins s σ H x y v u Q I rx ry h
  obtain ⟨β, S, d, e, sm, vd, ve, w⟩ := h
  unfold addD at w
  split at w
  · cases vd; cases ve
    exact op_add pins s σ H _ _ v u Q I rx ry ⟨_, _, rfl, rfl, w.here sm (.int _)⟩
  · split at w
    · rename_i hl
      cases vd; cases ve
      exact op_add_str pins s σ H _ _ v u Q I rx ry ⟨_, _, rfl, rfl, by rw [← lim_eq]; exact hl, w.here sm (.str _)⟩
    · exact w.elim
  · split at w
    · rename_i xs ys hl
      cases vd with
      | tup a1 a2 =>
        cases ve with
        | tup b1 b2 =>
          refine hcat pins s σ H _ _ v u Q I rx ry ⟨_, _, _, _, rfl, rfl, a1, b1, by rw [← a2.length, ← b2.length, ← lim_eq]; exact hl, fun e => ?_, fun _ e => ?_, fun _ _ => w.tup sm (a2.append b2)⟩
          · subst e
            cases a2
            exact w.here sm (.tup b1 b2)
          · subst e
            cases b2
            rw [List.append_nil] at w
            exact w.here sm (.tup a1 a2)
    · exact w.elim
  · split at w
    · rename_i xs ys h1 h2
      split at w
      · rename_i hl
        cases vd with
        | ref b1 =>
          cases ve with
          | ref b2 =>
            obtain ⟨vs, e1, r1⟩ := sm.lst b1 h1
            obtain ⟨ws, e2, r2⟩ := sm.lst b2 h2
            exact op_cat pins s σ H _ _ v u Q I rx ry ⟨_, _, vs, ws, rfl, rfl, e1, e2, by rw [← r1.length, ← r2.length, ← lim_eq]; exact hl, w.newL sm (r1.append r2)⟩
      · exact w.elim
    · exact w.elim
  · exact w.elim
theorem op_bin (hK : X.K = N.K) (op : Operator) : OpR X (binaryOp op) (r2 N (binD op)) := by
  intro pins s σ H x y v u Q I rx ry h
  obtain ⟨β, S, d, e, sm, vd, ve, w⟩ := h
  unfold binD at w
  split at w
  · exact op_addR hK pins s σ H x y v u Q I rx ry ⟨β, S, _, _, sm, vd, ve, w⟩
  · cases vd; cases ve
    exact op_sub pins s σ H _ _ v u Q I rx ry ⟨_, _, rfl, rfl, w.here sm (.int _)⟩
  · split at w
    · rename_i i j hl
      cases vd; cases ve
      refine op_mul pins s σ H _ _ v u Q I rx ry ⟨_, _, rfl, rfl, ?_, w.here sm (.int _)⟩
      simpa [small64, CMul] using hl
    · exact w.elim
  · split at w
    · rename_i hx
      split at w
      · rename_i hl
        cases vd with
        | ref b1 =>
          cases ve
          obtain ⟨vs, e1, r1⟩ := sm.lst b1 hx
          refine op_rep pins s σ H _ _ v u Q I rx ry ⟨_, _, vs, rfl, rfl, e1, by omega, by omega, ?_, w.newL sm (r1.flat _)⟩
          rw [← r1.length, sizeLine_eq]
          exact Nat.le_trans (Nat.mul_le_mul hl.1 (by omega : Int.toNat _ ≤ 1000)) (by decide)
      · exact w.elim
    · exact w.elim
  · split at w
    · rename_i hl
      subst hl
      cases vd with
      | tup b1 b2 =>
        cases ve
        have q1 := op_rep1 (X := X)
        rw [hK] at q1
        exact q1 pins s σ H _ _ v u Q I rx ry ⟨_, _, rfl, rfl, b1, w.here sm (.tup b1 b2)⟩
    · split at w
      · rename_i hl
        cases vd with
        | tup b1 b2 =>
          cases ve
          have q1 := op_repT (X := X)
          rw [hK] at q1
          have l1 := b2.length
          refine q1 pins s σ H _ _ v u Q I rx ry ⟨_, _, _, rfl, rfl, b1, ?_, hl.2.1, hl.2.2.1, by omega, fun p hp => w.tup sm (b2.flat _) p hp⟩
          intro e
          rw [e, List.length_nil] at l1
          omega
      · exact w.elim
  · split at w
    · rename_i hl
      cases vd; cases ve
      exact op_fdivW pins s σ H _ _ v u Q I rx ry ⟨_, _, rfl, rfl, div_ok hl, w.here sm (.int _)⟩
    · exact w.elim
  · split at w
    · rename_i hl
      cases vd; cases ve
      exact op_mod pins s σ H _ _ v u Q I rx ry ⟨_, _, rfl, rfl, hl, w.here sm (.int _)⟩
    · exact w.elim
  · split at w
    · rename_i hl
      cases vd; cases ve
      exact op_pow pins s σ H _ _ v u Q I rx ry ⟨_, _, rfl, rfl, hl, w.here sm (.int _)⟩
    · exact w.elim
  · exact w.elim
theorem un_un (op : UnaryOp) : UnR X (unaryOp op) (r1 N (unD op)) := by
  intro pins s σ H x v Q I rx h
  obtain ⟨β, S, d, sm, vd, w⟩ := h
  unfold unD at w
  split at w
  · cases vd
    exact un_neg pins s σ H _ v Q I rx ⟨_, rfl, w.here sm (.int _)⟩
  · exact w.elim

theorem Want.obl {β : Bt} {H : Hp} {S : Sto} {Q : VK} {o : Option Bool} (w : Want N (RD N) β H (Mi.obl o S) Q) (sm : Sim N β S H) : ∃ b, o = some b ∧ Q (.bl b) H := by
  cases o with
  | some b => exact ⟨b, rfl, w.here sm (.bl b)⟩
  | none => exact w.elim

theorem apart_at (I : Inv X pins σ H s) (hK : X.K = N.K) {A : Around} (hu : A.units < cLine) {β : Bt} {S : Sto} (sm : Sim N β S H) {d e : D} {x y : V} {v u : Value} (vd : VR N.K β H d x) (ve : VR N.K β H e y) (rx : RelV x v) (ry : RelV y u) (h : apart S d e = true) :
    SeqAt.EqAt A s v u false ∧ SeqAt.RcAt A s v u false ∧ SeqAt.RcNeAt A s v u true := by
  unfold apart at h
  split at h
  · rename_i h1 h2
    obtain ⟨a, rfl, rfl, da⟩ := isd_rel I sm vd h1 rx
    have o := oth_rel I hK sm ve h2 ry
    exact ⟨eq_do da o hu, rc_do da o hu, rn_do da o hu⟩
  · rename_i h1 h2
    obtain ⟨a, rfl, rfl, da⟩ := isd_rel I sm ve h2 ry
    have o := oth_rel I hK sm vd h1 rx
    exact ⟨eq_od da o hu, rc_od da o hu, rn_od da o hu⟩
  · cases h
/-- what two things' places say -/
def placeE (S : Sto) (x y : D) : Bool := if apart S x y = true then false else match toPy S 39 x, toPy S 39 y with
  | some p, some q => PyData.eqv p q
  | _, _ => false
theorem place_at (I : Inv X pins σ H s) (hK : X.K = N.K) {A : Around} (hu : A.units + 50 < cLine) {β : Bt} {S : Sto} (sm : Sim N β S H) {d e : D} {x y : V} {v u : Value} (vd : VR N.K β H d x) (ve : VR N.K β H e y) (rx : RelV x v) (ry : RelV y u) (h : eqJ S d e = true) :
    SeqAt.EqAt A s v u (placeE S d e) := by
  by_cases ha : apart S d e = true
  · unfold placeE
    rw [if_pos ha]
    exact (apart_at I hK (by omega) sm vd ve rx ry ha).1
  · unfold eqJ at h
    rw [Bool.not_eq_true] at ha
    rw [ha, Bool.false_or, Bool.and_eq_true] at h
    obtain ⟨p, e1⟩ := Option.isSome_iff_exists.mp h.1
    obtain ⟨q, e2⟩ := Option.isSome_iff_exists.mp h.2
    unfold placeE
    rw [if_neg (by rw [ha]; exact Bool.false_ne_true), e1, e2]
    obtain ⟨a1, a2, a3⟩ := toPy_dp sm 39 d x p e1 vd
    obtain ⟨b1, b2, b3⟩ := toPy_dp sm 39 e y q e2 ve
    rw [← hK] at a1 b1
    obtain ⟨as, r1⟩ := Dp.reads I p x v a1 rx
    obtain ⟨bs, r2⟩ := Dp.reads I q y u b1 ry
    refine SeqAt.eqAt_reads p q A s v u as bs r1 r2 a2 b2 ?_
    have := Nat.min_le_left p.depth q.depth
    omega
theorem unlike_rc (I : Inv X pins σ H s) (hK : X.K = N.K) {A : Around} (hu : A.units + 60 < cLine) {β : Bt} {S : Sto} (sm : Sim N β S H) {d e : D} {x y : V} {v u : Value} (vd : VR N.K β H d x) (ve : VR N.K β H e y) (rx : RelV x v) (ry : RelV y u) (h : unlike S d e = true) :
    SeqAt.RcAt A s v u false ∧ SeqAt.RcNeAt A s v u true := by
  by_cases ha : apart S d e = true
  · exact (apart_at I hK (by omega) sm vd ve rx ry ha).2
  · rw [Bool.not_eq_true] at ha
    unfold unlike at h
    rw [ha, Bool.false_or, Bool.or_eq_true] at h
    rcases h with h | h
    case inr =>
      split at h
      · rename_i xs ys h1 h2
        obtain ⟨a, vs, rfl, b1, c1⟩ := sm.seq vd h1
        obtain ⟨a2, ws, rfl, b2, c2⟩ := sm.seq ve h2
        cases rx
        cases ry
        rw [← hK] at b1 b2
        obtain ⟨its, rv, y1, _⟩ := I.list b1
        obtain ⟨its2, rv2, y2, _⟩ := I.list b2
        have l1 := c1.length
        have l2 := c2.length
        have l3 := rv.length
        have l4 := rv2.length
        have hne : (its.toArray.size != its2.toArray.size) = true := by
          have h : xs.length ≠ ys.length := by simpa using h
          simp
          omega
        exact ⟨SeqAt.RcAt.lists_lengths y1.isList y2.isList hne (by omega), SeqAt.RcNeAt.lists_lengths y1.isList y2.isList hne (by omega)⟩
      · cases h
    split at h
    · rename_i xs ys
      rw [Bool.and_eq_true, List.any_eq_true, List.all_eq_true] at h
      obtain ⟨⟨pr, hm, hap⟩, hall⟩ := h
      cases vd with
      | tup t1 q1 =>
        cases ve with
        | tup t2 q2 =>
          cases rx
          cases ry
          rw [← hK] at t1 t2
          obtain ⟨its, rv, y1, _⟩ := I.tuple t1
          obtain ⟨its2, rv2, y2, _⟩ := I.tuple t2
          have l1 := q1.length
          have l2 := q2.length
          have l3 := rv.length
          have l4 := rv2.length
          obtain ⟨j0, hj0, ej0⟩ := List.getElem_of_mem hm
          rw [List.length_zip] at hj0
          let ej : Nat → Bool := fun j => placeE S (xs[j]?.getD .non) (ys[j]?.getD .non)
          have each : ∀ j (h1 : j < its.toArray.size) (h2 : j < its2.toArray.size), SeqAt.EqAt A.in1 s its.toArray[j] its2.toArray[j] (ej j) := by
            intro j h1 h2
            have g1 : j < its.length := by simpa using h1
            have g2 : j < its2.length := by simpa using h2
            have g3 : j < xs.length := by omega
            have g4 : j < ys.length := by omega
            obtain ⟨v1, e1, r1⟩ := q1.get (List.getElem?_eq_getElem g3)
            obtain ⟨v2, e2, r2⟩ := q2.get (List.getElem?_eq_getElem g4)
            obtain ⟨u1, f1, s1⟩ := rv.get e1
            obtain ⟨u2, f2, s2⟩ := rv2.get e2
            have k1 : its.toArray[j] = u1 := by
              have : its[j] = u1 := Option.some.inj ((List.getElem?_eq_getElem g1).symm.trans f1)
              simpa using this
            have k2 : its2.toArray[j] = u2 := by
              have : its2[j] = u2 := Option.some.inj ((List.getElem?_eq_getElem g2).symm.trans f2)
              simpa using this
            have hz : (xs[j], ys[j]) ∈ xs.zip ys := by
              have : (xs.zip ys)[j]'(by rw [List.length_zip]; omega) = (xs[j], ys[j]) := by simp
              rw [← this]
              exact List.getElem_mem _
            have := place_at I hK (A := A.in1) (by show A.units + 1 + 50 < cLine; omega) sm r1 r2 s1 s2 (hall _ hz)
            rw [k1, k2]
            have ee : ej j = placeE S xs[j] ys[j] := by simp [ej, g3, g4]
            rw [ee]
            exact this
          have ef : ej j0 = false := by
            have g3 : j0 < xs.length := by omega
            have g4 : j0 < ys.length := by omega
            have ep : pr = (xs[j0], ys[j0]) := by rw [← ej0]; simp
            rw [ep] at hap
            have ee : ej j0 = placeE S xs[j0] ys[j0] := by simp [ej, g3, g4]
            rw [ee, placeE, if_pos hap]
          have fin : ((List.range (min its.toArray.size its2.toArray.size)).all ej && its.toArray.size == its2.toArray.size) = false := by
            have : (List.range (min its.toArray.size its2.toArray.size)).all ej = false := by
              rw [List.all_eq_false]
              exact ⟨j0, List.mem_range.mpr (by simp; omega), by rw [ef]; exact Bool.false_ne_true⟩
            rw [this, Bool.false_and]
          have c1 := SeqAt.RcAt.tuples (A := A) (e := ej) y1 y2 (by omega) each
          have c2 := SeqAt.RcNeAt.tuples (A := A) (e := ej) y1 y2 (by omega) each
          rw [fin] at c1 c2
          exact ⟨c1, c2⟩
    · cases h
theorem Dp_of {K : PySem.W.Frag} {β : Bt} {H : Hp} : True := trivial
theorem op_eqR (hK : X.K = N.K) (hu : X.A.units + 64 < cLine) (neg : Bool) : OpR X (compareOp (if neg then .NotEq else .Eq)) (r2 N fun d e S => Mi.obl (if neg then (eqD S d e).map (!·) else eqD S d e) S) := by
  have h1 := op_eqD (X := X) hu
  have h2 := op_neD (X := X) hu
  rw [hK] at h1 h2
  intro pins s σ H x y v u Q I rx ry h
  obtain ⟨β, S, d, e, sm, vd, ve, w⟩ := h
  obtain ⟨b, hb, q⟩ := Want.obl w sm
  by_cases hdat : ∃ p q', toPy S 40 d = some p ∧ toPy S 40 e = some q'
  · obtain ⟨p, q', e1, e2⟩ := hdat
    have e3 : eqD S d e = some (PyData.eqv p q') := by simp only [eqD, e1, e2]
    obtain ⟨a1, a2, a3⟩ := toPy_dp sm 40 d x p e1 vd
    obtain ⟨b1, b2, b3⟩ := toPy_dp sm 40 e y q' e2 ve
    cases neg with
    | false =>
      simp only [Bool.false_eq_true, if_false] at hb ⊢
      rw [e3] at hb; cases hb
      exact h1 pins s σ H x y v u Q I rx ry ⟨p, q', a1, b1, shaped_of a2 a3 (by decide), shaped_of b2 b3 (by decide), q⟩
    | true =>
      simp only [if_true] at hb ⊢
      rw [e3] at hb; cases hb
      exact h2 pins s σ H x y v u Q I rx ry ⟨p, q', a1, b1, shaped_of a2 a3 (by decide), shaped_of b2 b3 (by decide), q⟩
  · have e3 : eqD S d e = if unlike S d e = true then some false else none := by
      unfold eqD
      split
      · rename_i p q' z1 z2
        exact absurd ⟨p, q', z1, z2⟩ hdat
      · rfl
    by_cases hun : unlike S d e = true
    · rw [if_pos hun] at e3
      obtain ⟨r1, r2⟩ := unlike_rc I hK (A := X.A) (by omega) sm vd ve rx ry hun
      cases neg with
      | false =>
        simp only [Bool.false_eq_true, if_false] at hb ⊢
        rw [e3] at hb; cases hb
        exact r1 X.prog X.w X.xe (EP X pins σ Q) ⟨.bl _, H, I, rfl, q⟩
      | true =>
        simp only [if_true] at hb ⊢
        rw [e3] at hb; cases hb
        exact r2 X.prog X.w X.xe (EP X pins σ Q) ⟨.bl _, H, I, rfl, q⟩
    · rw [if_neg hun] at e3
      rw [e3] at hb
      cases neg <;> simp at hb

theorem getK_rel {κ : Type} [DecidableEq κ] {K : PySem.W.Frag} {β : Bt} {H : Hp} {kvs : List (κ × D)} {ks : List (κ × V)} (r : Paired (fun (p : κ × D) (q : κ × V) => p.1 = q.1 ∧ VR K β H p.2 q.2) kvs ks) (k : κ) :
    match getK kvs k with
    | some d => ∃ v, valV ks k = some v ∧ VR K β H d v
    | none => valV ks k = none := by
  induction r with
  | nil => simp [getK, valV]
  | @cons p q ps qs h t ih =>
    unfold getK valV at ih ⊢
    rw [List.find?_cons, List.find?_cons, ← h.1]
    by_cases e : p.1 = k
    · rw [decide_eq_true e]
      exact ⟨q.2, rfl, h.2⟩
    · rw [decide_eq_false e]
      exact ih
theorem any_rel {κ : Type} [DecidableEq κ] {K : PySem.W.Frag} {β : Bt} {H : Hp} {kvs : List (κ × D)} {ks : List (κ × V)} (r : Paired (fun (p : κ × D) (q : κ × V) => p.1 = q.1 ∧ VR K β H p.2 q.2) kvs ks) (k : κ) :
    (valV ks k).isSome = kvs.any fun kv => decide (kv.1 = k) := by
  induction r with
  | nil => simp [valV]
  | @cons p q ps qs h t ih =>
    unfold valV at ih ⊢
    rw [List.find?_cons, List.any_cons, ← h.1]
    by_cases e : p.1 = k
    · rw [decide_eq_true e]; simp
    · rw [decide_eq_false e, Bool.false_or]
      exact ih
theorem key_rel {K : PySem.W.Frag} {β : Bt} {H : Hp} {d : D} {v : V} {k : Key} (r : VR K β H d v) (h : d.key = some k) : v = kV k := by
  cases r with
  | int i => cases h; rfl
  | str x => cases h; rfl
  | _ => cases h
theorem keys_rel {K : PySem.W.Frag} {β : Bt} {H : Hp} : ∀ {ds : List D} {vs : List V} {ks : List Key}, VRs K β H ds vs → ds.mapM D.key = some ks → vs = ks.map kV
  | [], _, _, r, h => by
    cases r; simp at h; subst h; rfl
  | d :: ds, _, _, r, h => by
    cases r with
    | cons a b =>
      rw [List.mapM_cons] at h
      simp only [bind, Option.bind_eq_some_iff] at h
      obtain ⟨k, h1, ks, h2, h3⟩ := h
      cases h3
      rw [key_rel a h1, keys_rel b h2]
      rfl

/-- a tuple that is no module's -/
def TrackT (H : Hp) (v : V) : Prop := ∃ a xs, v = .ref a ∧ H a = some (.tup xs)

theorem anyEq_dp {β : Bt} {S : Sto} {H : Hp} (sm : Sim N β S H) {d : D} {v : V} {xs : List D} {vs : List V} {b : Bool} (vd : VR N.K β H d v) (r : VRs N.K β H xs vs) (h : anyEq S d xs = some b) :
    (∃ p ps, Dp N.K H v p ∧ DpAll N.K H vs ps ∧ p.canLay0 = true ∧ p.depth ≤ 40 ∧ PyData.canLayAll0 ps = true ∧ PyData.depthAll ps ≤ 39 ∧ b = ps.any fun z => PyData.eqv z p) ∨ (b = false ∧ ∀ y ∈ xs, apart S y d = true) := by
  unfold anyEq at h
  split at h
  · rename_i p ps e1 e2
    cases h
    obtain ⟨a1, a2, a3⟩ := toPy_dp sm 40 d v p e1 vd
    obtain ⟨b1, b2, b3⟩ := toPy_dps sm 39 xs vs ps e2 r
    exact .inl ⟨p, ps, a1, b1, a2, a3, b2, b3, rfl⟩
  · split at h
    · rename_i ha
      cases h
      exact .inr ⟨rfl, fun y hy => List.all_eq_true.mp ha y hy⟩
    · cases h
/-- nothing in it is like it -/
theorem none_alike (I : Inv X pins σ H s) (hK : X.K = N.K) {A : Around} (hu : A.units < cLine) {β : Bt} {S : Sto} (sm : Sim N β S H) {d : D} {v : V} {u : Value} {xs : List D} {vs : List V} {us : List Value} (vd : VR N.K β H d v) (rx : RelV v u) (r : VRs N.K β H xs vs) (rv : Vals vs us) (h : ∀ y ∈ xs, apart S y d = true) :
    ∀ y, y ∈ us.toArray → SeqAt.EqAt A s y u false := by
  intro y hy
  have hy : y ∈ us := by simpa using hy
  obtain ⟨j, hj, ej⟩ := List.getElem_of_mem hy
  have l1 := r.length
  have l2 := rv.length
  have g1 : j < xs.length := by omega
  obtain ⟨v1, e1, r1⟩ := r.get (List.getElem?_eq_getElem g1)
  obtain ⟨u1, f1, s1⟩ := rv.get e1
  have k1 : y = u1 := by rw [← ej]; exact Option.some.inj ((List.getElem?_eq_getElem hj).symm.trans f1)
  rw [k1]
  exact (apart_at I hK hu sm r1 vd s1 rx (h _ (List.getElem_mem g1))).1
theorem op_noneT (I : Inv X pins σ H s) (hK : X.K = N.K) (hu : X.A.units + 65 < cLine) {neg : Bool} {a : Addr} {β : Bt} {S : Sto} (sm : Sim N β S H) {d : D} {v : V} {vv uu : Value} {xs : List D} {vs : List V} {Q : VK} (vd : VR N.K β H d v) (rx : RelV v vv) (ry : RelV (.ref a) uu) (t : SqT N.K H a vs) (r : VRs N.K β H xs vs) (h : ∀ y ∈ xs, apart S y d = true)
    (q : Q (.bl neg) H) : wpAny (model X.prog X.w) X.A (compareOp (if neg then .NotIn else .In) vv uu) (EP X pins σ Q) X.xe s := by
  cases ry
  rw [← hK] at t
  obtain ⟨its, rv, y1, _⟩ := I.tuple t
  have hn := none_alike I hK (A := X.A.in1) (by show X.A.units + 1 < cLine; omega) sm vd rx r rv h
  have hf : its.toArray.any (fun _ => false) = false := by simp
  cases neg with
  | false =>
    refine SeqAt.in_tupleAt (fun _ => false) y1 hn ?_
    rw [hf]
    exact ⟨.bl _, H, I, rfl, q⟩
  | true =>
    refine SeqAt.notIn_tupleAt (fun _ => false) y1 hn ?_
    rw [hf]
    exact ⟨.bl _, H, I, rfl, q⟩
theorem op_noneL (I : Inv X pins σ H s) (hK : X.K = N.K) (hu : X.A.units + 65 < cLine) {neg : Bool} {a : Addr} {β : Bt} {S : Sto} (sm : Sim N β S H) {d : D} {v : V} {vv uu : Value} {xs : List D} {vs : List V} {Q : VK} (vd : VR N.K β H d v) (rx : RelV v vv) (ry : RelV (.ref a) uu) (t : SqL N.K H a vs) (r : VRs N.K β H xs vs) (h : ∀ y ∈ xs, apart S y d = true)
    (q : Q (.bl neg) H) : wpAny (model X.prog X.w) X.A (compareOp (if neg then .NotIn else .In) vv uu) (EP X pins σ Q) X.xe s := by
  cases ry
  rw [← hK] at t
  obtain ⟨its, rv, y1, _⟩ := I.list t
  have hn := none_alike I hK (A := X.A.in1) (by show X.A.units + 1 < cLine; omega) sm vd rx r rv h
  have hf : its.toArray.any (fun _ => false) = false := by simp
  cases neg with
  | false =>
    refine SeqAt.in_listAt (fun _ => false) y1.isList hn ?_
    rw [hf]
    exact ⟨.bl _, H, I, rfl, q⟩
  | true =>
    refine SeqAt.notIn_listAt (fun _ => false) y1.isList hn ?_
    rw [hf]
    exact ⟨.bl _, H, I, rfl, q⟩
theorem op_inT (hu : X.A.units + 65 < cLine) {neg : Bool} {p : PyData} {ps : List PyData} {a : Addr} {v : V} {vs : List V} {pins : List (Addr × Obj)} {s : Shared} {σ : List (Option V)} {H : Hp} {vv uu : Value} {Q : VK} (I : Inv X pins σ H s) (rx : RelV v vv) (ry : RelV (.ref a) uu)
    (hd : Dp X.K H v p) (hq : Dp X.K H (.ref a) (.tuple ps)) (h1 : p.canLay0 = true) (h2 : p.depth ≤ 40) (h3 : PyData.canLayAll0 ps = true) (h4 : PyData.depthAll ps ≤ 39) (q : Q (.bl (if neg then !(ps.any fun z => PyData.eqv z p) else ps.any fun z => PyData.eqv z p)) H) :
    wpAny (model X.prog X.w) X.A (compareOp (if neg then .NotIn else .In) vv uu) (EP X pins σ Q) X.xe s := by
  obtain ⟨as, r1⟩ := Dp.reads I p v vv hd rx
  obtain ⟨bs, r2⟩ := Dp.reads I (.tuple ps) _ uu hq ry
  have room : X.A.units + 1 + min (PyData.depthAll ps) p.depth < cLine := by
    have := Nat.min_le_right (PyData.depthAll ps) p.depth
    omega
  cases neg with
  | false =>
    simp only [Bool.false_eq_true, if_false] at q ⊢
    exact SeqAt.in_tuple_reads r2 r1 h3 h1 room ⟨.bl _, H, I, rfl, q⟩
  | true =>
    simp only [if_true] at q ⊢
    exact SeqAt.notIn_tuple_reads r2 r1 h3 h1 room ⟨.bl _, H, I, rfl, q⟩
theorem op_inL (hu : X.A.units + 65 < cLine) {neg : Bool} {p : PyData} {ps : List PyData} {a : Addr} {v : V} {vs : List V} {pins : List (Addr × Obj)} {s : Shared} {σ : List (Option V)} {H : Hp} {vv uu : Value} {Q : VK} (I : Inv X pins σ H s) (rx : RelV v vv) (ry : RelV (.ref a) uu)
    (hd : Dp X.K H v p) (hq : Dp X.K H (.ref a) (.list ps)) (h1 : p.canLay0 = true) (h2 : p.depth ≤ 40) (h3 : PyData.canLayAll0 ps = true) (h4 : PyData.depthAll ps ≤ 39) (q : Q (.bl (if neg then !(ps.any fun z => PyData.eqv z p) else ps.any fun z => PyData.eqv z p)) H) :
    wpAny (model X.prog X.w) X.A (compareOp (if neg then .NotIn else .In) vv uu) (EP X pins σ Q) X.xe s := by
  obtain ⟨as, r1⟩ := Dp.reads I p v vv hd rx
  obtain ⟨bs, r2⟩ := Dp.reads I (.list ps) _ uu hq ry
  have room : X.A.units + 1 + min (PyData.depthAll ps) p.depth < cLine := by
    have := Nat.min_le_right (PyData.depthAll ps) p.depth
    omega
  cases neg with
  | false =>
    simp only [Bool.false_eq_true, if_false] at q ⊢
    exact SeqAt.in_list_reads r2 r1 h3 h1 room ⟨.bl _, H, I, rfl, q⟩
  | true =>
    simp only [if_true] at q ⊢
    exact SeqAt.notIn_list_reads r2 r1 h3 h1 room ⟨.bl _, H, I, rfl, q⟩
theorem op_inR (hK : X.K = N.K) (hu : X.A.units + 65 < cLine) (neg : Bool) : OpR X (compareOp (if neg then .NotIn else .In)) (r2 N fun d e S => Mi.obl (if neg then (inD S d e).map (!·) else inD S d e) S) := by
  intro pins s σ H x y v u Q I rx ry h
  obtain ⟨β, S, d, e, sm, vd, ve, w⟩ := h
  obtain ⟨b, hb, q⟩ := Want.obl w sm
  have key : ∃ b0, inD S d e = some b0 ∧ b = if neg then !b0 else b0 := by
    cases neg with
    | false => exact ⟨b, by simpa using hb, rfl⟩
    | true =>
      simp only [if_true, Option.map_eq_some_iff] at hb
      obtain ⟨b0, e1, e2⟩ := hb
      exact ⟨b0, e1, by simp [← e2]⟩
  obtain ⟨b0, hi, e0⟩ := key
  subst e0
  clear w hb
  unfold inD at hi
  split at hi
  · rename_i xs
    cases ve with
    | tup t1 t2 =>
      rcases anyEq_dp sm vd t2 hi with ⟨p, ps, a1, a2, a3, a4, a5, a6, a7⟩ | ⟨rfl, ha⟩
      · subst a7
        exact op_inT hu I rx ry (by rw [hK]; exact a1) (by rw [hK]; exact .tup t1 a2) a3 a4 a5 a6 q (vs := [])
      · exact op_noneT I hK hu sm vd rx ry t1 t2 ha (by cases neg <;> exact q)
  · rename_i xs
    cases ve with
    | rol t1 t2 =>
      rcases anyEq_dp sm vd t2 hi with ⟨p, ps, a1, a2, a3, a4, a5, a6, a7⟩ | ⟨rfl, ha⟩
      · subst a7
        exact op_inL hu I rx ry (by rw [hK]; exact a1) (by rw [hK]; exact .lst t1.sq a2) a3 a4 a5 a6 q (vs := [])
      · exact op_noneL I hK hu sm vd rx ry t1.sq t2 ha (by cases neg <;> exact q)
  · rename_i n
    cases ve with
    | ref hb =>
      split at hi
      · rename_i xs hx
        obtain ⟨vs, e1, r1⟩ := sm.at hb hx
        rcases anyEq_dp sm vd r1 hi with ⟨p, ps, a1, a2, a3, a4, a5, a6, a7⟩ | ⟨rfl, ha⟩
        · subst a7
          exact op_inL hu I rx ry (by rw [hK]; exact a1) (by rw [hK]; exact .lst (SqL.of e1) a2) a3 a4 a5 a6 q (vs := [])
        · exact op_noneL I hK hu sm vd rx ry (SqL.of e1) r1 ha (by cases neg <;> exact q)
      · rename_i kvs hx
        split at hi
        · rename_i k hk
          cases hi
          obtain ⟨ks, e1, r1⟩ := sm.at hb hx
          have ek := key_rel vd hk
          subst ek
          cases (show u = Value.ref _ from ry)
          rw [← any_rel r1] at q
          cases neg with
          | false =>
            simp only [Bool.false_eq_true, if_false] at q ⊢
            exact d_in (by omega) I (DGet.k e1) rx fun s' I' => ⟨.bl _, H, I', rfl, q⟩
          | true =>
            simp only [if_true] at q ⊢
            exact d_notIn (by omega) I (DGet.k e1) rx fun s' I' => ⟨.bl _, H, I', rfl, q⟩
        · cases hi
      · cases hi
      · cases hi
  · rename_i y'
    split at hi
    · rename_i x'
      split at hi
      · rename_i c hc
        cases hi
        have ex : x' = ⟨#[c]⟩ := by
          obtain ⟨cps⟩ := x'
          congr 1
          exact Array.toList_inj.mp (by simpa using hc)
        subst ex
        cases vd; cases ve
        cases neg with
        | false =>
          simp only [Bool.false_eq_true, if_false] at q ⊢
          exact op_in_sign pins s σ H _ _ v u Q I rx ry ⟨_, _, rfl, rfl, q⟩
        | true =>
          simp only [if_true] at q ⊢
          exact op_notIn_sign pins s σ H _ _ v u Q I rx ry ⟨_, _, rfl, rfl, q⟩
      · cases hi
    · cases hi
  · cases hi
end
theorem putK_rel {κ : Type} [DecidableEq κ] {K : PySem.W.Frag} {β : Bt} {H : Hp} {k : κ} {x : D} {v : V} (rx : VR K β H x v) {kvs : List (κ × D)} {ks : List (κ × V)} (r : Paired (fun (p : κ × D) (q : κ × V) => p.1 = q.1 ∧ VR K β H p.2 q.2) kvs ks) :
    Paired (fun (p : κ × D) (q : κ × V) => p.1 = q.1 ∧ VR K β H p.2 q.2) (putKD kvs k x) (putK ks k v) := by
  have ea : (kvs.any fun kv => decide (kv.1 = k)) = (ks.any fun kv => decide (kv.1 = k)) := by
    induction r with
    | nil => rfl
    | @cons p q ps qs h t ih => rw [List.any_cons, List.any_cons, h.1, ih]
  unfold putKD putK
  rw [ea]
  split
  · clear ea
    induction r with
    | nil => exact .nil
    | @cons p q ps qs h t ih =>
      rename_i hany
      rw [List.map_cons, List.map_cons]
      refine .cons ?_ ?_
      · rw [h.1]
        split
        · exact ⟨rfl, rx⟩
        · exact h
      · have key : ∀ {ps : List (κ × D)} {qs : List (κ × V)}, Paired (fun (p : κ × D) (q : κ × V) => p.1 = q.1 ∧ VR K β H p.2 q.2) ps qs → Paired (fun (p : κ × D) (q : κ × V) => p.1 = q.1 ∧ VR K β H p.2 q.2) (ps.map fun kv => if kv.1 = k then (kv.1, x) else kv) (qs.map fun kv => if kv.1 = k then (kv.1, v) else kv) := by
          intro ps qs t
          induction t with
          | nil => exact .nil
          | @cons p q ps qs h t ih =>
            rw [List.map_cons, List.map_cons]
            refine .cons ?_ ih
            rw [h.1]
            split
            · exact ⟨rfl, rx⟩
            · exact h
        exact key t
  · clear ea
    induction r with
    | nil => exact .cons ⟨rfl, rx⟩ .nil
    | @cons p q ps qs h t ih =>
      rename_i hany
      rw [List.cons_append, List.cons_append]
      refine .cons h ?_
      have key : ∀ {ps : List (κ × D)} {qs : List (κ × V)}, Paired (fun (p : κ × D) (q : κ × V) => p.1 = q.1 ∧ VR K β H p.2 q.2) ps qs → Paired (fun (p : κ × D) (q : κ × V) => p.1 = q.1 ∧ VR K β H p.2 q.2) (ps ++ [(k, x)]) (qs ++ [(k, v)]) := by
        intro ps qs t
        induction t with
        | nil => exact .cons ⟨rfl, rx⟩ .nil
        | cons h t ih => exact .cons h ih
      exact key t
abbrev PVR (N : Nm) (β : Bt) (H : Hp) : List (Key × D) → List (Key × V) → Prop := Paired (fun (p : Key × D) (q : Key × V) => p.1 = q.1 ∧ VR N.K β H p.2 q.2)
theorem merge_rel {N : Nm} {β : Bt} {H : Hp} {more : List (Key × D)} {ks : List (Key × V)} (h : PVR N β H more ks) : ∀ {kvs : List (Key × D)} {ls : List (Key × V)}, PVR N β H kvs ls → PVR N β H (mergeD kvs more) (mergeK ls ks) := by
  induction h with
  | nil => intro kvs ls r; exact r
  | @cons p q ps qs h t ih =>
    intro kvs ls r
    refine ih (kvs := putKD kvs p.1 p.2) (ls := putK ls q.1 q.2) ?_
    rw [← h.1]
    exact putK_rel h.2 r
end Mi

namespace Mi
open PySem L2 PySem.Spec PyProof.Rows

section
variable {X : Cx} {N : Nm}
theorem isNon_rel {K : PySem.W.Frag} {β : Bt} {H : Hp} {d : D} {v : V} (r : VR K β H d v) : decide (v = .non) = d.isNon := by
  cases r <;> simp [D.isNon]
theorem op_cmpR (hK : X.K = N.K) (hu : X.A.units + 65 < cLine) (op : CmpOp) : OpR X (compareOp op) (r2 N fun d e S => Mi.obl (cmpD op d e S) S) := by
  cases op with
  | Eq => exact op_eqR hK (by omega) false
  | NotEq => exact op_eqR hK (by omega) true
  | In => exact op_inR hK hu false
  | NotIn => exact op_inR hK hu true
  | Is =>
    intro pins s σ H x y v u Q I rx ry h
    obtain ⟨β, S, d, e, sm, vd, ve, w⟩ := h
    obtain ⟨b, hb, q⟩ := Want.obl w sm
    have hb : isD d e = some b := hb
    unfold isD at hb
    split at hb
    · cases hb
      cases ve
      exact op_isN pins s σ H _ _ v u Q I rx ry ⟨rfl, by rw [isNon_rel vd]; exact q⟩
    · split at hb
      · cases hb
        cases vd
        cases ve
        exact op_is_bl pins s σ H _ _ v u Q I rx ry ⟨_, _, rfl, rfl, q⟩
      · cases hb
    · cases hb
  | IsNot =>
    intro pins s σ H x y v u Q I rx ry h
    obtain ⟨β, S, d, e, sm, vd, ve, w⟩ := h
    obtain ⟨b, hb, q⟩ := Want.obl w sm
    have hb : (isD d e).map (!·) = some b := hb
    obtain ⟨b', hb2, hb3⟩ := Option.map_eq_some_iff.mp hb
    subst hb3
    clear hb
    unfold isD at hb2
    split at hb2
    · cases hb2
      cases ve
      exact op_notN pins s σ H _ _ v u Q I rx ry ⟨rfl, by rw [isNon_rel vd]; exact q⟩
    · split at hb2
      · cases hb2
        cases vd
        cases ve
        exact op_isnot_bl pins s σ H _ _ v u Q I rx ry ⟨_, _, rfl, rfl, q⟩
      · cases hb2
    · cases hb2
  | Lt =>
    intro pins s σ H x y v u Q I rx ry h
    obtain ⟨β, S, d, e, sm, vd, ve, w⟩ := h
    obtain ⟨b, hb, q⟩ := Want.obl w sm
    unfold cmpD at hb
    simp only at hb
    split at hb
    · cases hb; cases vd; cases ve
      exact op_lt pins s σ H _ _ v u Q I rx ry ⟨_, _, rfl, rfl, q⟩
    · cases hb; cases vd; cases ve
      exact op_lt_str pins s σ H _ _ v u Q I rx ry ⟨_, _, rfl, rfl, q⟩
    · cases hb
  | LtE =>
    intro pins s σ H x y v u Q I rx ry h
    obtain ⟨β, S, d, e, sm, vd, ve, w⟩ := h
    obtain ⟨b, hb, q⟩ := Want.obl w sm
    unfold cmpD at hb
    simp only at hb
    split at hb
    · cases hb; cases vd; cases ve
      exact op_le pins s σ H _ _ v u Q I rx ry ⟨_, _, rfl, rfl, q⟩
    · cases hb; cases vd; cases ve
      exact op_le_str pins s σ H _ _ v u Q I rx ry ⟨_, _, rfl, rfl, q⟩
    · cases hb
  | Gt =>
    intro pins s σ H x y v u Q I rx ry h
    obtain ⟨β, S, d, e, sm, vd, ve, w⟩ := h
    obtain ⟨b, hb, q⟩ := Want.obl w sm
    unfold cmpD at hb
    simp only at hb
    split at hb
    · cases hb; cases vd; cases ve
      exact op_gt pins s σ H _ _ v u Q I rx ry ⟨_, _, rfl, rfl, q⟩
    · cases hb
  | GtE =>
    intro pins s σ H x y v u Q I rx ry h
    obtain ⟨β, S, d, e, sm, vd, ve, w⟩ := h
    obtain ⟨b, hb, q⟩ := Want.obl w sm
    unfold cmpD at hb
    simp only at hb
    split at hb
    · cases hb; cases vd; cases ve
      exact op_ge pins s σ H _ _ v u Q I rx ry ⟨_, _, rfl, rfl, q⟩
    · cases hb

/-- truth -/
theorem tru_rel {β : Bt} {S : Sto} {H : Hp} (sm : Sim N β S H) {d : D} {v : V} {b : Bool} (r : VR N.K β H d v) (h : truthD S d = some b) : TruV N.K v H b := by
  unfold truthD at h
  split at h
  · cases h; cases r; rfl
  · cases h; cases r; rfl
  · cases h; cases r; rfl
  · split at h
    · rename_i hl
      cases h; cases r
      exact ⟨by rw [← lim_eq]; exact hl, rfl⟩
    · cases h
  · cases h
    cases r with
    | tup a c => exact .inr (.inl ⟨_, a, c.isEmpty⟩)
  · cases h
    cases r with
    | rol a c => exact .inl ⟨_, a.sq, c.isEmpty⟩
  · split at h
    · rename_i hx
      cases h
      cases r with
      | ref hb =>
        obtain ⟨vs, e, r1⟩ := sm.at hb hx
        exact .inl ⟨vs, SqL.of e, r1.isEmpty⟩
    · rename_i hx
      cases h
      cases r with
      | ref hb =>
        obtain ⟨ks, e, r1⟩ := sm.at hb hx
        refine .inr (.inr ⟨ks, e, ?_⟩)
        cases r1 <;> rfl
    · cases h

theorem oD_some {β : Bt} {H : Hp} {S : Sto} {Q : VK} {o : Option D} (w : Want N (RD N) β H (oD o S) Q) : ∃ d, o = some d ∧ Want N (RD N) β H (.ok d S) Q := by
  cases o with
  | some d => exact ⟨d, rfl, w⟩
  | none => exact w.elim
theorem ix_all (hK : X.K = N.K) (hu : X.A.units + 1 < cLine) : IxR X (r2 N idxD) := by
  have hl := ix_list (X := X)
  have ht := ix_tup (X := X)
  rw [hK] at hl ht
  intro value slice pins s σ H x y v u Q I rx ry h hs
  obtain ⟨β, S, d, e, sm, vd, ve, w⟩ := h
  unfold idxD at w
  split at w
  · split at w
    · obtain ⟨z, hz, w⟩ := oD_some w
      cases ve
      cases vd with
      | tup a b =>
        obtain ⟨zv, e1, r1⟩ := b.atI hz
        exact ht value slice pins s σ H _ _ v u Q I rx ry ⟨_, _, _, zv, rfl, rfl, a, e1, w.here sm r1⟩ hs
    · exact w.elim
  · split at w
    · obtain ⟨z, hz, w⟩ := oD_some w
      cases ve
      cases vd with
      | rol a b =>
        obtain ⟨zv, e1, r1⟩ := b.atI hz
        exact hl value slice pins s σ H _ _ v u Q I rx ry ⟨_, _, _, zv, rfl, rfl, a.sq, e1, w.here sm r1⟩ hs
    · exact w.elim
  · split at w
    · split at w
      · rename_i hz
        split at w
        · rename_i c hc
          cases ve; cases vd
          exact ix_str value slice pins s σ H _ _ v u Q I rx ry ⟨_, _, c, rfl, rfl, by rw [← lim_eq]; exact hz, hc, w.here sm (.str _)⟩ hs
        · exact w.elim
      · exact w.elim
    · exact w.elim
  · rename_i n
    cases vd with
    | ref hb =>
      split at w
      · rename_i hx
        obtain ⟨vs, e1, r1⟩ := sm.at hb hx
        split at w
        · obtain ⟨z, hz, w⟩ := oD_some w
          cases ve
          obtain ⟨zv, e2, r2⟩ := r1.atI hz
          exact hl value slice pins s σ H _ _ v u Q I rx ry ⟨_, _, _, zv, rfl, rfl, SqL.of e1, e2, w.here sm r2⟩ hs
        · exact w.elim
      · rename_i hx
        obtain ⟨ks, e1, r1⟩ := sm.at hb hx
        split at w
        · rename_i k hk
          obtain ⟨z, hz, w⟩ := oD_some w
          have ek := key_rel ve hk
          subst ek
          have g := getK_rel r1 k
          rw [hz] at g
          obtain ⟨zv, e2, r2⟩ := g
          obtain rfl : v = Value.ref _ := rx
          have G := DGet.k (k := k) e1
          rw [e2] at G
          exact tail_any (dict_typeIs I G) PySem.F.slot_dict_getitem.lookup (d_getItem hu I G ry fun w' s3 I3 rw' => ⟨zv, H, I3, rw', w.here sm r2⟩) hs
        · exact w.elim
      · exact w.elim
  · exact w.elim

def r3 (N : Nm) (f : D → Option Int → Option Int → Sto → Out D) : V → Option Int → Option Int → Hp → VK → Prop := fun x lo hi H Q => ∃ β S d, Sim N β S H ∧ VR N.K β H d x ∧ Want N (RD N) β H (f d lo hi S) Q
theorem sl_all (hK : X.K = N.K) : SlR X (r3 N slcD) := by
  have hl := sl_list (X := X)
  have ht := sl_tupA (X := X)
  rw [hK] at hl ht
  intro pins s σ H x v vl vu lo hi sl Q I rx hs pl pu h
  obtain ⟨β, S, d, sm, vd, w⟩ := h
  unfold slcD at w
  split at w
  · cases vd with
    | tup a b =>
      refine ht pins s σ H _ v vl vu lo hi sl Q I rx hs pl pu ⟨_, _, rfl, a, fun hw => ?_, fun hw => w.tup sm (b.cut lo hi)⟩
      refine w.here sm (.tup a ?_)
      have e : ∀ {xs : List D}, VRs N.K β H xs _ → cutD xs lo hi = xs := fun {xs} r => by
        unfold cutD
        rw [r.length, hw.1, hw.2, Nat.sub_zero, List.drop_zero, ← r.length, List.take_length]
      rw [e b]
      exact b
  · split at w
    · rename_i hz
      cases vd
      exact sl_str pins s σ H _ v vl vu lo hi sl Q I rx hs pl pu ⟨_, rfl, by rw [← lim_eq]; exact hz, w.here sm (.str _)⟩
    · exact w.elim
  · split at w
    · rename_i xs hx
      obtain ⟨a, vs, rfl, h1, h2⟩ := sm.seq vd hx
      exact hl pins s σ H _ v vl vu lo hi sl Q I rx hs pl pu ⟨a, vs, rfl, h1, w.newL sm (h2.cut lo hi)⟩
    · exact w.elim
end
end Mi

namespace Mi
open PySem L2 PySem.Spec PyProof.Rows

section
variable {X : Cx} {N : Nm}
theorem lenV_rel {β : Bt} {S : Sto} {H : Hp} (sm : Sim N β S H) {d : D} {v : V} {n : Nat} (r : VR N.K β H d v) (h : lenD S d = some n) : LenV N.K v H n := by
  unfold lenD at h
  split at h
  · split at h
    · rename_i hl
      cases h; cases r
      exact ⟨by rw [← lim_eq]; exact hl, rfl⟩
    · cases h
  · cases h
    cases r with
    | tup a c => exact .inr ⟨_, a, c.length⟩
  · cases h
    cases r with
    | rol a c => exact .inl ⟨_, a.sq, c.length⟩
  · split at h
    · rename_i hx
      cases h
      cases r with
      | ref hb =>
        obtain ⟨vs, e, r1⟩ := sm.at hb hx
        exact .inl ⟨vs, SqL.of e, r1.length⟩
    · cases h
  · cases h
theorem bls_rel {K : PySem.W.Frag} {β : Bt} {H : Hp} : ∀ {ds : List D} {vs : List V} {bs : List Bool}, VRs K β H ds vs → ds.mapM blOf = some bs → vs = bs.map V.bl
  | [], _, _, r, h => by
    cases r; simp at h; subst h; rfl
  | d :: ds, _, _, r, h => by
    cases r with
    | cons a b =>
      rw [List.mapM_cons] at h
      simp only [bind, Option.bind_eq_some_iff] at h
      obtain ⟨k, h1, ks, h2, h3⟩ := h
      cases h3
      rw [bls_rel b h2]
      cases a <;> simp [blOf] at h1
      subst h1
      rfl
theorem ints_rel {K : PySem.W.Frag} {β : Bt} {H : Hp} : ∀ {ds : List D} {vs : List V} {bs : List Int}, VRs K β H ds vs → ds.mapM intOf = some bs → vs = bs.map V.int
  | [], _, _, r, h => by
    cases r; simp at h; subst h; rfl
  | d :: ds, _, _, r, h => by
    cases r with
    | cons a b =>
      rw [List.mapM_cons] at h
      simp only [bind, Option.bind_eq_some_iff] at h
      obtain ⟨k, h1, ks, h2, h3⟩ := h
      cases h3
      rw [ints_rel b h2]
      cases a <;> simp [intOf] at h1
      subst h1
      rfl
def BI.val : BI → Value
  | .len => .builtin "len"
  | .min2 => .builtin "min"
  | .max2 => .builtin "max"
  | .abs => .builtin "abs"
  | .int1 => .type "int"
  | .lst1 => .type "list"
  | .tup1 => .type "tuple"
  | .all1 => .builtin "all"
  | .any1 => .builtin "any"
  | .sum1 => .builtin "sum"
theorem bi_ok (hK : X.K = N.K) (hc : X.calm = true) (f : BI) : CallR X f.val (rs N (biD f)) := by
  have hlen := call_len (X := X)
  have hl := call_list_of (X := X)
  have ht := call_tuple_of (X := X)
  have ha := cr_all (X := X) hc
  have hy := cr_any (X := X) hc
  have hsum := cr_sum (X := X) hc
  rw [hK] at hlen hl ht ha hy hsum
  intro pins s σ H xs us Q I rx h
  obtain ⟨β, S, ds, sm, vd, w⟩ := h
  unfold biD at w
  split at w
  · split at w
    · rename_i d n hn
      cases vd with
      | cons a b =>
        cases b
        exact hlen pins s σ H _ us Q I rx ⟨_, n, rfl, lenV_rel sm a hn, w.here sm (.int _)⟩
    · exact w.elim
  · cases vd with
    | cons a b =>
      cases b with
      | cons b c =>
        cases c; cases a; cases b
        exact call_min2 hc pins s σ H _ us Q I rx ⟨_, _, rfl, w.here sm (.int _)⟩
  · cases vd with
    | cons a b =>
      cases b with
      | cons b c =>
        cases c; cases a; cases b
        exact call_max2 hc pins s σ H _ us Q I rx ⟨_, _, rfl, w.here sm (.int _)⟩
  · cases vd with
    | cons a b =>
      cases b; cases a
      exact call_abs pins s σ H _ us Q I rx ⟨_, rfl, w.here sm (.int _)⟩
  · cases vd with
    | cons a b =>
      cases b; cases a
      exact call_int1 pins s σ H _ us Q I rx (.inl ⟨_, rfl, w.here sm (.int _)⟩)
  · cases vd with
    | cons a b =>
      cases b; cases a
      exact call_int1 pins s σ H _ us Q I rx (.inr ⟨_, rfl, w.here sm (.int _)⟩)
  · cases vd with
    | cons a b =>
      cases b
      cases a with
      | tup a b => exact ht pins s σ H _ us Q I rx ⟨_, _, rfl, .inr ⟨a, w.here sm (.tup a b)⟩⟩
  · split at w
    · rename_i hx
      cases vd with
      | cons a b =>
        cases b
        obtain ⟨p, vs, rfl, h1, h2⟩ := sm.seq a hx
        exact ht pins s σ H _ us Q I rx ⟨_, _, rfl, .inl ⟨h1, w.tup sm h2⟩⟩
    · exact w.elim
  · split at w
    · rename_i hx
      obtain ⟨xs', hx1, hx2⟩ := Option.bind_eq_some_iff.mp hx
      cases vd with
      | cons a b =>
        cases b
        obtain ⟨p, vs, rfl, h1, h2⟩ := sm.seq a hx1
        have e := bls_rel h2 hx2
        subst e
        exact ha pins s σ H _ us Q I rx ⟨_, _, rfl, h1, w.here sm (.bl _)⟩
    · exact w.elim
  · split at w
    · rename_i hx
      obtain ⟨xs', hx1, hx2⟩ := Option.bind_eq_some_iff.mp hx
      cases vd with
      | cons a b =>
        cases b
        obtain ⟨p, vs, rfl, h1, h2⟩ := sm.seq a hx1
        have e := bls_rel h2 hx2
        subst e
        exact hy pins s σ H _ us Q I rx ⟨_, _, rfl, h1, w.here sm (.bl _)⟩
    · exact w.elim
  · split at w
    · rename_i hx
      obtain ⟨xs', hx1, hx2⟩ := Option.bind_eq_some_iff.mp hx
      cases vd with
      | cons a b =>
        cases b
        obtain ⟨p, vs, rfl, h1, h2⟩ := sm.seq a hx1
        have e := ints_rel h2 hx2
        subst e
        exact hsum pins s σ H _ us Q I rx ⟨_, _, rfl, h1, w.here sm (.int _)⟩
    · exact w.elim
  · cases vd with
    | cons a b =>
      cases b
      cases a with
      | tup a b => exact hl pins s σ H _ us Q I rx ⟨_, _, rfl, .inr a, w.newL sm b⟩
  · split at w
    · rename_i hx
      cases vd with
      | cons a b =>
        cases b
        obtain ⟨p, vs, rfl, h1, h2⟩ := sm.seq a hx
        exact hl pins s σ H _ us Q I rx ⟨_, _, rfl, .inl h1, w.newL sm h2⟩
    · exact w.elim
  · exact w.elim

/-! ### methods of lists and dicts -/
def BM.isL : BM → Bool
  | .get1 => false
  | .get2 => false
  | .update => false
  | _ => true
def BM.id : BM → String
  | .append => "list.append"
  | .extend => "list.extend"
  | .pop => "list.pop"
  | .popAt => "list.pop"
  | .clear => "list.clear"
  | .reverse => "list.reverse"
  | .index => "list.index"
  | .get1 => "dict.get"
  | .get2 => "dict.get"
  | .update => "dict.update"
def rm (N : Nm) (m : BM) : V → List V → Hp → VK → Prop := fun x xs H Q => ∃ β S d ds, Sim N β S H ∧ VR N.K β H d x ∧ VRs N.K β H ds xs ∧ Want N (RD N) β H (bmD m d ds S) Q
theorem Want.wr {β : Bt} {S : Sto} {H : Hp} {Q : VK} {d : D} {v : V} {n : Nat} {a : Addr} {o : MO} {u : HO} (w : Want N (RD N) β H (.ok d (S.set n o)) Q) (sm : Sim N β S H) (hb : β n = some a) (q : OR N β (upd H a u) a o) (rv : VR N.K β H d v) : Q v (upd H a u) :=
  w _ _ _ (.write hb) (sm.write hb q) (rv.nxt sm (.write hb))
theorem findIdx_spec {α : Type} (p : α → Bool) : ∀ (l : List α) (j : Nat), l.findIdx? p = some j → ∃ z, l[j]? = some z ∧ p z = true ∧ ∀ m z', m < j → l[m]? = some z' → p z' = false := fun l j h => by
  obtain ⟨h1, h2, h3⟩ := List.findIdx?_eq_some_iff_getElem.mp h
  refine ⟨l[j], List.getElem?_eq_getElem h1, h2, fun m z' hm hz => ?_⟩
  obtain ⟨h4, h5⟩ := List.getElem?_eq_some_iff.mp hz
  subst h5
  have := h3 m hm
  simpa using this
/-- a list made longer by a tuple's items -/
theorem ext_tup (l : Addr) (u : Array Value) (n : Nat) (b : Addr) (t : Array Value) (k : Nat) (dd : Option Addr) (sl : Array (Option Value)) (h0 : ¬ (!u.isEmpty && Builtin.List.listTooLong (u.size + t.size)) = true) (h1 : u.size ≤ sizeLine) (h2 : u.size + t.size ≤ sizeLine + 1) :
    Meets (Builtin.«list.extend» ⟨[.ref l, .ref b], []⟩) (fun _ R s =>
      s.heap.get? l = some { cls := .type "list", dict := none, data := .seq u n, slots := #[] } ∧
      s.heap.get? b = some { cls := .type "tuple", dict := dd, data := .seq t k, slots := sl } ∧
      R (.ok (.ret Value.none)) { s with heap := s.heap.update l (Obj.mapSeq fun x => x ++ t), toks := s.toks }) :=
  .of_wp fun prog w A R s h => by
    obtain ⟨hp, g, d, tk, os⟩ := s
    obtain ⟨q1, q2, h⟩ := h
    have f1 := PySem.AutoSeq1.idx_int
    have f2 := PySem.AutoSeq1.sub_tuple_tuple
    have f3 := PySem.AutoSeq1.sub_list_list
    have f4 := PySem.AutoSeq1.sub_tuple_list
    have f5 := PySem.AutoSeq1.sub_list_tuple
    have hz' : (u ++ t).size ≤ sizeLine + 1 := by
      rw [Array.size_append]
      exact h2
    wp_walk using (wpAny_updateSeq q1 rfl (hz := h1) (_hz' := hz')), PySem.AutoSeq1.wpAny_loadPart' q1, PySem.AutoSeq1.wpAny_loadPart' q2
    exact ⟨_, rfl, h⟩
theorem mt_extendT : MtR X "list.extend" (fun x vs H Q => ∃ l b xs zs, x = .ref l ∧ vs = [.ref b] ∧ H l = some (.lst xs) ∧ SqT X.K H b zs ∧ xs.length + zs.length ≤ sizeLine ∧ Q .non (upd H l (.lst (xs ++ zs)))) := by
  intro pins s σ H x vs v us Q I rx rv h
  obtain ⟨l, b, xs, zs, rfl, rfl, hH, hB, hz, q⟩ := h
  cases rx
  obtain ⟨u, rfl, ru⟩ := rv.one
  cases ru
  obtain ⟨z, its, n, r, hl, e⟩ := I.lstM hH
  obtain ⟨its2, r2, ⟨⟨cls, dd, data, sl⟩, e2, hc, n2, hd⟩, z2⟩ := I.tuple hB
  simp only at hc hd
  subst hc hd
  have l2 := r2.length
  have hsz : its.toArray.size + its2.toArray.size ≤ sizeLine := by rw [List.size_toArray, List.size_toArray]; omega
  have hlong : ¬ (!its.toArray.isEmpty && Builtin.List.listTooLong (its.toArray.size + its2.toArray.size)) = true := by
    intro hh
    rw [notLongL hsz, Bool.and_false] at hh
    cases hh
  refine call_meets PySem.F.slot_list_extend ⟨_, e, rfl⟩ PySem.F.entry_list_extend (PySem.F.args_list_extend_2 _ _) (ext_tup l its.toArray n b its2.toArray n2 dd sl hlong (by rw [List.size_toArray]; omega) (by omega)) ⟨e, e2, ?_⟩
  exact ⟨.non, _, I.lset (its' := its ++ its2) hH e (by simp) (r.append r2) (by rw [List.length_append]; exact hz), rfl, q⟩
theorem paired_len' {α γ : Type} {P : α → γ → Prop} {l : List α} {m : List γ} (h : Paired P l m) : l.length = m.length := by
  induction h with
  | nil => rfl
  | cons a b ih => simp [ih]
theorem bm_ok (hK : X.K = N.K) (hu : X.A.units + 65 < cLine) (m : BM) : MtR X m.id (rm N m) := by
  have hidx := mt_indexD (X := X) hu
  have hext := mt_extendT (X := X)
  rw [hK] at hidx hext
  intro pins s σ H x xs v us Q I rx rxs h
  obtain ⟨β, S, d, ds, sm, vd, vds, w⟩ := h
  unfold bmD at w
  split at w
  · rename_i n
    cases vd with
    | @ref _ a hb =>
      split at w
      · rename_i ys hx
        obtain ⟨vs, e1, r1⟩ := sm.at hb hx
        split at w
        · split at w
          · rename_i hl
            cases vds with
            | cons ra rb =>
              cases rb
              exact mt_append pins s σ H _ _ v us Q I rx rxs ⟨_, vs, _, rfl, rfl, e1, by rw [← r1.length, ← lim_eq]; exact hl, w.wr sm hb ⟨_, upd_same, (r1.append (.cons ra .nil)).nxt sm (.write hb)⟩ .non⟩
          · exact w.elim
        · split at w
          · rename_i hy
            split at w
            · rename_i hl
              cases vds with
              | cons ra rb =>
                cases rb
                cases ra with
                | ref hc =>
                  obtain ⟨ws, e2, r2⟩ := sm.lst hc hy
                  exact mt_extend pins s σ H _ _ v us Q I rx rxs ⟨_, _, vs, ws, rfl, rfl, e1, e2, by rw [← r1.length, ← r2.length, ← lim_eq]; exact hl, w.wr sm hb ⟨_, upd_same, (r1.append r2).nxt sm (.write hb)⟩ .non⟩
            · exact w.elim
          · exact w.elim
        · split at w
          · rename_i hl
            cases vds with
            | cons ra rb =>
              cases rb
              cases ra with
              | tup rc rd => exact hext pins s σ H _ _ v us Q I rx rxs ⟨_, _, vs, _, rfl, rfl, e1, rc, by rw [← r1.length, ← rd.length, ← lim_eq]; exact hl, w.wr sm hb ⟨_, upd_same, (r1.append rd).nxt sm (.write hb)⟩ .non⟩
          · exact w.elim
        · split at w
          · rename_i hy
            cases vds
            obtain ⟨y, e2, r2⟩ := r1.get hy
            exact mt_pop pins s σ H _ _ v us Q I rx rxs ⟨_, vs, y, rfl, rfl, e1, by rw [← r1.length]; exact e2, w.wr sm hb ⟨_, upd_same, r1.dropLast.nxt sm (.write hb)⟩ r2⟩
          · exact w.elim
        · split at w
          · rename_i k hk
            split at w
            · rename_i hy
              cases vds with
              | cons ra rb =>
                cases rb
                cases ra
                obtain ⟨y, e2, r2⟩ := r1.get hy
                have hk' := hk
                rw [r1.length] at hk'
                obtain ⟨k1, k2, k3, k4⟩ := ixN_seq hk'
                have hl := (I.hok _ _ e1 : ObjOk X.prog X.w H s.heap _ (.lst vs)).1
                rw [sizeLine_eq] at hl
                exact mt_popAt pins s σ H _ _ v us Q I rx rxs ⟨_, vs, _, k, y, rfl, rfl, e1, by omega, by omega, k1, e2, w.wr sm hb ⟨_, upd_same, (r1.erase k).nxt sm (.write hb)⟩ r2⟩
            · exact w.elim
          · exact w.elim
        · cases vds
          exact mt_clear pins s σ H _ _ v us Q I rx rxs ⟨_, vs, rfl, rfl, e1, w.wr sm hb ⟨_, upd_same, .nil⟩ .non⟩
        · cases vds
          exact mt_reverse pins s σ H _ _ v us Q I rx rxs ⟨_, vs, rfl, rfl, e1, w.wr sm hb ⟨_, upd_same, r1.reverse.nxt sm (.write hb)⟩ .non⟩
        · split at w
          · rename_i y ps h1 h2
            split at w
            · rename_i j hj
              cases vds with
              | cons ra rb =>
                cases rb
                obtain ⟨a1, a2, a3⟩ := toPy_dp sm 40 _ _ y h1 ra
                obtain ⟨b1, b2, b3⟩ := toPy_dps sm 39 ys vs ps h2 r1
                obtain ⟨z, z1, z2, z3⟩ := findIdx_spec _ ps j hj
                refine hidx pins s σ H _ _ v us Q I rx rxs ⟨_, _, y, ps, j, z, rfl, rfl, .lst (SqL.of e1) b1, a1, shaped_of (k := 40) (by simpa [PyData.canLay0] using b2) (by simp only [PyData.depth]; omega) (by decide), shaped_of a2 a3 (by decide), z1, z2, z3, w.here sm (.int _)⟩
            · exact w.elim
          · exact w.elim
        · exact w.elim
      · rename_i o hne hx
        split at w
        · split at w
          · rename_i r hr
            cases o with
            | dK kvs =>
              obtain ⟨ks, e1, r1⟩ := sm.at hb hx
              obtain ⟨k, hk, hr2⟩ := Option.map_eq_some_iff.mp (show (D.key _).map (fun k => getK kvs k) = some r from hr)
              cases vds with
              | cons ra rb =>
                cases rb
                have ek := key_rel ra hk
                subst ek
                cases rxs with
                | cons rq rt =>
                  cases rt
                  obtain rfl : v = Value.ref _ := rx
                  have g := getK_rel r1 k
                  rw [hr2] at g
                  refine d_get1 (by omega) I (DGet.k (k := k) e1) rq fun w' s' I' rw' => ?_
                  cases r with
                  | some dd =>
                    obtain ⟨zv, e2, r2⟩ := g
                    rw [e2] at rw'
                    exact ⟨zv, H, I', rw', w.here sm r2⟩
                  | none =>
                    rw [g] at rw'
                    exact ⟨.non, H, I', rw', w.here sm .non⟩
            | _ => cases hr
          · exact w.elim
        · split at w
          · rename_i r hr
            cases o with
            | dK kvs =>
              obtain ⟨ks, e1, r1⟩ := sm.at hb hx
              obtain ⟨k, hk, hr2⟩ := Option.map_eq_some_iff.mp (show (D.key _).map (fun k => getK kvs k) = some r from hr)
              cases vds with
              | cons ra rb =>
                cases rb with
                | cons rc rb =>
                  cases rb
                  have ek := key_rel ra hk
                  subst ek
                  cases rxs with
                  | cons rq rt =>
                    cases rt with
                    | cons rq2 rt =>
                      cases rt
                      obtain rfl : v = Value.ref _ := rx
                      have g := getK_rel r1 k
                      rw [hr2] at g
                      refine d_get2 (by omega) I (DGet.k (k := k) e1) rq rq2 fun w' s' I' rw' => ?_
                      cases r with
                      | some dd =>
                        obtain ⟨zv, e2, r2⟩ := g
                        rw [e2] at rw'
                        exact ⟨zv, H, I', rw', w.here sm r2⟩
                      | none =>
                        rw [g] at rw'
                        exact ⟨_, H, I', rw', w.here sm rc⟩
            | _ => cases hr
          · exact w.elim
        · split at w
          · rename_i o kvs more hk
            split at w
            · rename_i hl
              cases vds with
              | cons ra rb =>
                cases rb
                cases ra with
                | @ref _ a2 hb2 =>
                  obtain ⟨ks, e1, r1⟩ := sm.at hb hx
                  obtain ⟨ms, e2, r2⟩ := sm.at hb2 hk
                  have hne : a ≠ a2 := fun e => hl.1 (sm.inj _ _ _ hb (by rw [e]; exact hb2))
                  have l1 := (paired_len' r1).symm
                  have l2 := (paired_len' r2).symm
                  exact mt_update pins s σ H _ _ v us Q I rx rxs ⟨_, _, ks, ms, rfl, rfl, hne, e1, e2, by rw [l1, l2, ← lim_eq]; exact hl.2, w.wr sm hb ⟨_, upd_same, Paired.imp (fun _ _ q => ⟨q.1, q.2.nxt sm (.write hb)⟩) (merge_rel r2 r1)⟩ .non⟩
            · exact w.elim
          · exact w.elim
        · exact w.elim
      · exact w.elim
  · exact w.elim

/-! ### isinstance -/
theorem ty_rel {β : Bt} {S : Sto} {H : Hp} (sm : Sim N β S H) {d : D} {v : V} {u : KT} (r : VR N.K β H d v) (h : tyName S d = some (.inl u)) : TyX N.K H v (.type u.name) := by
  unfold tyName at h
  split at h
  · cases h; cases r; exact .base .non
  · cases h; cases r; exact .base (.bl _)
  · cases h; cases r; exact .base (.int _)
  · cases h; cases r; exact .base (.str _)
  · cases h
    cases r with
    | tup a b =>
      rcases a with (a | ⟨o, a⟩) | ⟨o, its, n, a, c, _⟩
      · exact .base (.tup a)
      · exact .fTuple a
      · exact .kTuple a c
  · cases h
    cases r with
    | rol a b =>
      rcases a with ⟨o, a⟩ | ⟨o, its, n, a, c, _⟩
      · exact .base (.frz a)
      · exact .kList a c
  · split at h
    · rename_i hx
      cases h
      cases r with
      | ref hb =>
        obtain ⟨vs, e, r1⟩ := sm.at hb hx
        exact .base (.lst e)
    · rename_i hx
      cases h
      cases r with
      | ref hb =>
        obtain ⟨vs, e, r1⟩ := sm.at hb hx
        exact .base (.dK e)
    · rename_i hx
      cases h
      cases r with
      | ref hb =>
        obtain ⟨vs, e, r1⟩ := sm.at hb hx
        exact .base (.dT e)
    · cases h
    · cases h
theorem kitB_ok (u t : KT) : kitB u.name t.name = some (tyLe u t) := by
  cases u <;> cases t <;> decide +kernel
def Ty.val : Ty → V
  | .b t => .ty t.name
  | .own _ => .non
def Ty.vl : Ty → Value
  | .b t => .type t.name
  | .own _ => .none
theorem isTy_kit {K : PySem.W.Frag} {S : Sto} {d : D} {t : Ty} {b : Bool} (h : isTy S d t = some b) : ∃ u k, tyName S d = some (.inl u) ∧ t = .b k ∧ PySem.W.kitOne K (.type u.name) t.vl = some b := by
  cases t with
  | b k =>
    unfold isTy at h
    simp only at h
    split at h
    · rename_i u hu
      cases h
      exact ⟨u, k, hu, rfl, kit_ty (kitB_ok u k)⟩
    · cases h
    · cases h
  | own c => cases h
theorem isTys_kit {K : PySem.W.Frag} {S : Sto} {d : D} : ∀ {ts : List Ty} {b : Bool} {u : KT}, tyName S d = some (.inl u) → isTys S d ts = some b → PySem.W.kitAny K (.type u.name) (ts.map Ty.vl) = some b ∧ ∀ t ∈ ts, True
  | [], b, u, _, h => by
    simp only [isTys, Option.some.injEq] at h
    subst h
    exact ⟨kitAny_nil, fun _ _ => trivial⟩
  | t :: ts, b, u, hu, h => by
    unfold isTys at h
    split at h
    · rename_i h1
      cases h
      obtain ⟨u', k, e1, e2, e3⟩ := isTy_kit (K := K) h1
      rw [hu] at e1; cases e1
      exact ⟨kitAny_cons e3 (fun z => nomatch z) (fun _ => rfl), fun _ _ => trivial⟩
    · rename_i h1
      obtain ⟨u', k, e1, e2, e3⟩ := isTy_kit (K := K) h1
      rw [hu] at e1; cases e1
      have ih := isTys_kit (K := K) hu h
      exact ⟨kitAny_cons e3 (fun _ => ih.1) (fun z => nomatch z), fun _ _ => trivial⟩
    · cases h
end
end Mi

namespace Mi
open PySem L2 PySem.Spec PyProof.Rows

section
variable {X : Cx} {N : Nm} {Y : Fs} {ea eb ec : PySem.Expr} {a b c : E} {pos : Pos}

/-- the step from a part's value to what follows -/
theorem tE_bind {σ : List (Option V)} {H : Hp} {e : E} {β : Bt} {env : Env} {S : Sto} {γ ρ : Type} {R' : Bt → Hp → γ → ρ → Prop} {f : D → Sto → Out γ} {Q : ρ → Hp → Prop} {Q1 : VK}
    (sm : Sim N β S H) (er : EnvR N.K β H env σ) (w : Want N R' β H ((ev Y e env S).bind f) Q)
    (h : ∀ d S1 β1 H1 v, Nxt β H β1 H1 → Sim N β1 S1 H1 → EnvR N.K β1 H1 env σ → VR N.K β1 H1 d v → Want N R' β1 H1 (f d S1) Q → Q1 v H1) : tE N Y e σ H Q1 :=
  ⟨β, env, S, sm, er, Want.bind (R' := R') w fun d S1 _ β1 H1 v x sm1 r w1 => h d S1 β1 H1 v x sm1 (er.nxt sm x) r w1⟩
theorem tEs_bind {σ : List (Option V)} {H : Hp} {es : Es} {β : Bt} {env : Env} {S : Sto} {γ ρ : Type} {R' : Bt → Hp → γ → ρ → Prop} {f : List D → Sto → Out γ} {Q : ρ → Hp → Prop} {Q1 : List V → Hp → Prop}
    (sm : Sim N β S H) (er : EnvR N.K β H env σ) (w : Want N R' β H ((evs Y es env S).bind f) Q)
    (h : ∀ d S1 β1 H1 v, Nxt β H β1 H1 → Sim N β1 S1 H1 → EnvR N.K β1 H1 env σ → VRs N.K β1 H1 d v → Want N R' β1 H1 (f d S1) Q → Q1 v H1) : tEs N Y es σ H Q1 :=
  ⟨β, env, S, sm, er, Want.bind (R' := R') w fun d S1 _ β1 H1 v x sm1 r w1 => h d S1 β1 H1 v x sm1 (er.nxt sm x) r w1⟩
theorem tT_bind {σ : List (Option V)} {H : Hp} {e : E} {β : Bt} {env : Env} {S : Sto} {γ ρ : Type} {R' : Bt → Hp → γ → ρ → Prop} {f : Bool → Sto → Out γ} {Q : ρ → Hp → Prop} {Q1 : Bool → Hp → Prop}
    (sm : Sim N β S H) (er : EnvR N.K β H env σ) (w : Want N R' β H ((evT Y e env S).bind f) Q)
    (h : ∀ d S1 β1 H1, Nxt β H β1 H1 → Sim N β1 S1 H1 → EnvR N.K β1 H1 env σ → Want N R' β1 H1 (f d S1) Q → Q1 d H1) : tT N Y e σ H Q1 :=
  ⟨β, env, S, sm, er, Want.bind (R' := R') w fun d S1 _ β1 H1 v x sm1 r w1 => by cases r; exact h d S1 β1 H1 x sm1 (er.nxt sm x) w1⟩

theorem Want.oblI {β : Bt} {H : Hp} {S : Sto} {o : Option Bool} {k : Bool} {Q : VK} (h : o = some k) (q : ∀ β' H', Nxt β H β' H' → Sim N β' S H' → Q (.bl k) H') : Want N (RD N) β H (Mi.obl o S) Q := by
  subst h
  intro β' H' t x s r
  cases r
  exact q β' H' x s
/-! ### expressions -/
theorem e_var {i : Nat} {x : Str} (hN : X.N[i]? = some x) (hv : Vis X.env.scope x) (hd : (x == ("__debug__" : Str)) = false) (hc : (x == ("__classdict__" : Str)) = false) : PE X (.Name x pos) (tE N Y (.var i)) :=
  PE.imp (pe_var hN hv hd hc) fun σ H Q h => by
    obtain ⟨β, env, S, sm, er, w⟩ := h
    unfold ev at w
    split at w
    · rename_i d hd
      obtain ⟨v, e, r⟩ := er.val i d hd
      exact ⟨v, e, w.here sm r⟩
    · exact w.elim
theorem e_con {d : D} {v : V} {e : PySem.Expr} (h : PE X e (tC v)) (hr : ∀ β H, VR N.K β H d v) : PE X e (tE N Y (.con d)) :=
  PE.imp h fun σ H Q h => by
    obtain ⟨β, env, S, sm, er, w⟩ := h
    exact w.here sm (hr _ _)
theorem e_glob {g : Nat} {v : V} {e : PySem.Expr} (h : PE X e (tC v)) (hr : ∀ β H, VR N.K β H (Y.gv g) v) : PE X e (tE N Y (.glob g)) :=
  PE.imp h fun σ H Q h => by
    obtain ⟨β, env, S, sm, er, w⟩ := h
    exact w.here sm (hr _ _)
theorem e_bin (hK : X.K = N.K) {op : Operator} (ha : PE X ea (tE N Y a)) (hb : PE X eb (tE N Y b)) : PE X (.BinOp ea op eb pos) (tE N Y (.bin op a b)) :=
  PE.imp (pe_op (op_bin hK op) ha hb) fun σ H Q h => by
    obtain ⟨β, env, S, sm, er, w⟩ := h
    refine tE_bind (R' := RD N) sm er w fun d S1 β1 H1 v x1 sm1 er1 r1 w1 => ?_
    refine tE_bind (R' := RD N) sm1 er1 w1 fun d2 S2 β2 H2 v2 x2 sm2 er2 r2 w2 => ?_
    exact ⟨β2, S2, d, d2, sm2, r1.nxt sm1 x2, r2, w2⟩
theorem e_una {op : UnaryOp} (ha : PE X ea (tE N Y a)) : PE X (.UnaryOp op ea pos) (tE N Y (.una op a)) :=
  PE.imp (pe_un (un_un op) ha) fun σ H Q h => by
    obtain ⟨β, env, S, sm, er, w⟩ := h
    refine tE_bind (R' := RD N) sm er w fun d S1 β1 H1 v x1 sm1 er1 r1 w1 => ?_
    exact ⟨β1, S1, d, sm1, r1, w1⟩
theorem e_cmp (hK : X.K = N.K) (hu : X.A.units + 65 < cLine) {op : CmpOp} (hm : behindInMarks op eb = false) (ha : PE X ea (tE N Y a)) (hb : PE X eb (tE N Y b)) : PE X (.Compare ea [op] [eb] pos) (tE N Y (.cmp op a b)) :=
  PE.imp (pe_cmpR (op_cmpR hK hu op) ha hb hm) fun σ H Q h => by
    obtain ⟨β, env, S, sm, er, w⟩ := h
    refine tE_bind (R' := RD N) sm er w fun d S1 β1 H1 v x1 sm1 er1 r1 w1 => ?_
    refine tE_bind (R' := RD N) sm1 er1 w1 fun d2 S2 β2 H2 v2 x2 sm2 er2 r2 w2 => ?_
    exact ⟨β2, S2, d, d2, sm2, r1.nxt sm1 x2, r2, w2⟩
theorem Want.truth {β : Bt} {H : Hp} {S : Sto} {d : D} {Q : Bool → Hp → Prop} (w : Want N RB β H (match truthD S d with
    | some b => .ok b S
    | none => .no) Q) (sm : Sim N β S H) : ∃ b, truthD S d = some b ∧ Q b H := by
  split at w
  · rename_i b hb
    exact ⟨b, hb, w.here sm rfl⟩
  · exact w.elim
theorem t_cmp (hK : X.K = N.K) (hu : X.A.units + 65 < cLine) {op : CmpOp} (hm : behindInMarks op eb = false) (ha : PE X ea (tE N Y a)) (hb : PE X eb (tE N Y b)) : PT X (.Compare ea [op] [eb] pos) (tT N Y (.cmp op a b)) :=
  PT.imp (pt_cmpR (op_cmpR hK hu op) ha hb hm) fun σ H Q h => by
    obtain ⟨β, env, S, sm, er, w⟩ := h
    have w : Want N RB β H (((ev Y a env S).bind fun x S1 => (ev Y b env S1).bind fun y S2 => obl (cmpD op x y S2) S2).bind fun x S1 => match truthD S1 x with
      | some b => .ok b S1
      | none => .no) Q := w
    have assoc : ∀ {α γ δ : Type} (o : Out α) (f : α → Sto → Out γ) (g : γ → Sto → Out δ), (o.bind f).bind g = o.bind fun a S => (f a S).bind g := fun o f g => by cases o <;> rfl
    rw [assoc] at w
    refine tE_bind (R' := RB) sm er w fun d S1 β1 H1 v x1 sm1 er1 r1 w1 => ?_
    rw [assoc] at w1
    refine tE_bind (R' := RB) sm1 er1 w1 fun d2 S2 β2 H2 v2 x2 sm2 er2 r2 w2 => ?_
    refine ⟨β2, S2, d, d2, sm2, r1.nxt sm1 x2, r2, ?_⟩
    cases hc : cmpD op d d2 S2 with
    | none => rw [hc] at w2; exact w2.elim
    | some k =>
      rw [hc] at w2
      exact Want.oblI hc fun β3 H3 x3 sm3 => ⟨k, rfl, Want.at (R := RB) (a := k) (S := S2) w2 x3 sm3 rfl⟩
theorem out_assoc {α γ δ : Type} (o : Out α) (f : α → Sto → Out γ) (g : γ → Sto → Out δ) : (o.bind f).bind g = o.bind fun a S => (f a S).bind g := by cases o <;> rfl
/-- from its value -/
theorem t_of (hK : X.K = N.K) (h : PE X ea (tE N Y a)) (he : ∀ whole, isTrue ea X.env whole = (do let v ← whole; standAt ea.pos; holding [v] (truthy v))) : PT X ea (tT N Y a) := by
  have p := pt_truth h he
  rw [hK] at p
  refine PT.imp p fun σ H Q h => ?_
  obtain ⟨β, env, S, sm, er, w⟩ := h
  refine tE_bind (R' := RB) sm er w fun d S1 β1 H1 v x1 sm1 er1 r1 w1 => ?_
  obtain ⟨k, hk, q⟩ := Want.truth w1 sm1
  exact ⟨k, tru_rel sm1 r1 hk, q⟩
theorem e_chain (hK : X.K = N.K) (hu : X.A.units + 65 < cLine) {op op' : CmpOp} (hm : lastMarks [op, op'] [eb, ec] = false) (ha : PE X ea (tE N Y a)) (hb : PE X eb (tE N Y b)) (hc : PE X ec (tE N Y c)) : PE X (.Compare ea [op, op'] [eb, ec] pos) (tE N Y (.chain op op' a b c)) :=
  PE.imp (pe_chain (op_cmpR hK hu op) (op_cmpR hK hu op') ha hb hc hm) fun σ H Q h => by
    obtain ⟨β, env, S, sm, er, w⟩ := h
    refine tE_bind (R' := RD N) sm er w fun d S1 β1 H1 v x1 sm1 er1 r1 w1 => ?_
    refine tE_bind (R' := RD N) sm1 er1 w1 fun d2 S2 β2 H2 v2 x2 sm2 er2 r2 w2 => ?_
    refine ⟨β2, S2, d, d2, sm2, r1.nxt sm1 x2, r2, ?_⟩
    cases hk : cmpD op d d2 S2 with
    | none => rw [hk] at w2; exact w2.elim
    | some k =>
      rw [hk] at w2
      refine Want.oblI hk fun β3 H3 x3 sm3 => ?_
      refine ⟨k, rfl, ?_⟩
      cases k with
      | true =>
        refine iteT ?_
        refine tE_bind (R' := RD N) sm3 ((er2.nxt sm2 x3)) (Want.nxt (R := RD N) x3 w2) fun d3 S4 β4 H4 v4 x4 sm4 er4 r4 w4 => ?_
        exact ⟨β4, S4, d2, d3, sm4, (r2.nxt sm2 x3).nxt sm3 x4, r4, w4⟩
      | false => exact iteF (Want.at (R := RD N) (a := .bl false) (S := S2) w2 x3 sm3 (.bl false))
theorem t_chain (hK : X.K = N.K) (hu : X.A.units + 65 < cLine) {op op' : CmpOp} (hm : lastMarks [op, op'] [eb, ec] = false) (ha : PE X ea (tE N Y a)) (hb : PE X eb (tE N Y b)) (hc : PE X ec (tE N Y c)) : PT X (.Compare ea [op, op'] [eb, ec] pos) (tT N Y (.chain op op' a b c)) :=
  PT.imp (pt_chain (op_cmpR hK hu op) (op_cmpR hK hu op') ha hb hc hm) fun σ H Q h => by
    obtain ⟨β, env, S, sm, er, w⟩ := h
    have w : Want N RB β H (((ev Y a env S).bind fun x S1 => (ev Y b env S1).bind fun y S2 => match cmpD op x y S2 with
      | some true => (ev Y c env S2).bind fun z S3 => obl (cmpD op' y z S3) S3
      | some false => .ok (.bl false) S2
      | none => .no).bind fun x S1 => match truthD S1 x with
      | some b => .ok b S1
      | none => .no) Q := w
    rw [out_assoc] at w
    refine tE_bind (R' := RB) sm er w fun d S1 β1 H1 v x1 sm1 er1 r1 w1 => ?_
    rw [out_assoc] at w1
    refine tE_bind (R' := RB) sm1 er1 w1 fun d2 S2 β2 H2 v2 x2 sm2 er2 r2 w2 => ?_
    refine ⟨β2, S2, d, d2, sm2, r1.nxt sm1 x2, r2, ?_⟩
    cases hk : cmpD op d d2 S2 with
    | none => rw [hk] at w2; exact w2.elim
    | some k =>
      rw [hk] at w2
      refine Want.oblI hk fun β3 H3 x3 sm3 => ?_
      refine ⟨k, rfl, ?_⟩
      cases k with
      | true =>
        refine iteT ?_
        have w2 : Want N RB β2 H2 (((ev Y c env S2).bind fun z S3 => obl (cmpD op' d2 z S3) S3).bind fun x S1 => match truthD S1 x with
          | some b => .ok b S1
          | none => .no) Q := w2
        rw [out_assoc] at w2
        refine tE_bind (R' := RB) sm3 ((er2.nxt sm2 x3)) (Want.nxt (R := RB) x3 w2) fun d3 S4 β4 H4 v4 x4 sm4 er4 r4 w4 => ?_
        refine ⟨β4, S4, d2, d3, sm4, (r2.nxt sm2 x3).nxt sm3 x4, r4, ?_⟩
        cases hk2 : cmpD op' d2 d3 S4 with
        | none => rw [hk2] at w4; exact w4.elim
        | some k2 =>
          rw [hk2] at w4
          refine Want.oblI hk2 fun β5 H5 x5 sm5 => ?_
          exact ⟨k2, rfl, Want.at (R := RB) (a := k2) (S := S4) w4 x5 sm5 rfl⟩
      | false => exact iteF ⟨false, rfl, Want.at (R := RB) (a := false) (S := S2) w2 x3 sm3 rfl⟩
theorem e_not (hK : X.K = N.K) (ha : PE X ea (tE N Y a)) : PE X (.UnaryOp .Not ea pos) (tE N Y (.not_ a)) := by
  have p := pe_notT (pos := pos) ha
  rw [hK] at p
  refine PE.imp p fun σ H Q h => ?_
  obtain ⟨β, env, S, sm, er, w⟩ := h
  refine tE_bind (R' := RD N) sm er w fun d S1 β1 H1 v x1 sm1 er1 r1 w1 => ?_
  obtain ⟨b, hb, q⟩ := Want.obl w1 sm1
  obtain ⟨k, hk, e⟩ := Option.map_eq_some_iff.mp hb
  subst e
  exact ⟨k, tru_rel sm1 r1 hk, q⟩
theorem t_not (ha : PT X ea (tT N Y a)) : PT X (.UnaryOp .Not ea pos) (tT N Y (.not_ a)) :=
  PT.imp (pt_not ha) fun σ H Q h => by
    obtain ⟨β, env, S, sm, er, w⟩ := h
    refine tT_bind (R' := RB) (f := fun b S => .ok (!b) S) (Q := Q) sm er ?_ fun d S1 β1 H1 x1 sm1 er1 w1 => w1.here sm1 rfl
    have w : Want N RB β H (((ev Y a env S).bind fun x S1 => obl ((truthD S1 x).map (!·)) S1).bind fun x S1 => match truthD S1 x with
      | some b => .ok b S1
      | none => .no) Q := w
    rw [out_assoc] at w
    unfold evT
    rw [out_assoc]
    cases ho : ev Y a env S with
    | no => rw [ho] at w; exact w
    | exc c fs S => rw [ho] at w; exact w
    | ok d S1 =>
      rw [ho] at w
      simp only [Out.bind] at w ⊢
      cases ht : truthD S1 d with
      | none => rw [ht] at w; exact w
      | some k => rw [ht] at w; exact w
theorem e_ite (hc : PT X ec (tT N Y c)) (ha : PE X ea (tE N Y a)) (hb : PE X eb (tE N Y b)) : PE X (.IfExp ec ea eb pos) (tE N Y (.ite c a b)) :=
  PE.imp (pe_ifExp hc ha hb) fun σ H Q h => by
    obtain ⟨β, env, S, sm, er, w⟩ := h
    refine tT_bind (R' := RD N) (f := fun t S1 => if t = true then ev Y a env S1 else ev Y b env S1) (Q := Q) sm er ?_ fun d S1 β1 H1 x1 sm1 er1 w1 => ?_
    · have w : Want N (RD N) β H ((ev Y c env S).bind fun x S1 => match truthD S1 x with
        | some true => ev Y a env S1
        | some false => ev Y b env S1
        | none => .no) Q := w
      unfold evT
      rw [out_assoc]
      cases ho : ev Y c env S with
      | no => rw [ho] at w; exact w
      | exc c fs S => rw [ho] at w; exact w
      | ok d S1 =>
        rw [ho] at w
        simp only [Out.bind] at w ⊢
        cases ht : truthD S1 d with
        | none => rw [ht] at w; exact w
        | some k => rw [ht] at w; cases k <;> exact w
    · cases d with
      | true => exact iteT ⟨β1, env, S1, sm1, er1, w1⟩
      | false => exact iteF ⟨β1, env, S1, sm1, er1, w1⟩
theorem t_ite (hc : PT X ec (tT N Y c)) (ha : PT X ea (tT N Y a)) (hb : PT X eb (tT N Y b)) : PT X (.IfExp ec ea eb pos) (tT N Y (.ite c a b)) := by
  refine ⟨fun pins s σ H Q I h => ?_⟩
  obtain ⟨β, env, S, sm, er, w⟩ := h
  have key : tT N Y c σ H fun d H1 => if d = true then tT N Y a σ H1 Q else tT N Y b σ H1 Q := by
    refine tT_bind (R' := RB) (f := fun t S1 => if t = true then evT Y a env S1 else evT Y b env S1) (Q := Q) sm er ?_ fun d S1 β1 H1 x1 sm1 er1 w1 => ?_
    · have w : Want N RB β H (((ev Y c env S).bind fun x S1 => match truthD S1 x with
        | some true => ev Y a env S1
        | some false => ev Y b env S1
        | none => .no).bind fun x S1 => match truthD S1 x with
        | some b => .ok b S1
        | none => .no) Q := w
      rw [out_assoc] at w
      unfold evT
      rw [out_assoc]
      cases ho : ev Y c env S with
      | no => rw [ho] at w; exact w
      | exc c fs S => rw [ho] at w; exact w
      | ok d S1 =>
        rw [ho] at w
        simp only [Out.bind] at w ⊢
        cases ht : truthD S1 d with
        | none => rw [ht] at w; exact w
        | some k => rw [ht] at w; cases k <;> exact w
    · cases d with
      | true => exact iteT ⟨β1, env, S1, sm1, er1, w1⟩
      | false => exact iteF ⟨β1, env, S1, sm1, er1, w1⟩
  show wpAny (model X.prog X.w) X.A (do if ← isTrue ec X.env (eval ec X.env) then isTrue ea X.env (eval ea X.env) else isTrue eb X.env (eval eb X.env)) (TP X pins σ Q) X.xe s
  refine wpAny_bind (thn (hc.run pins s σ H _ I key) fun d s1 ⟨H1, I1, q⟩ => ?_)
  cases d with
  | true => exact ha.run pins s1 σ H1 Q I1 q
  | false => exact hb.run pins s1 σ H1 Q I1 q

/-! ### and, or -/
def tAn (N : Nm) (Y : Fs) (es : Es) : TE := fun σ H Q => ∃ β env S, Sim N β S H ∧ EnvR N.K β H env σ ∧ Want N (RD N) β H (evAnd Y es env S) Q
def tOn (N : Nm) (Y : Fs) (es : Es) : TE := fun σ H Q => ∃ β env S, Sim N β S H ∧ EnvR N.K β H env σ ∧ Want N (RD N) β H (evOr Y es env S) Q
def tAnT (N : Nm) (Y : Fs) (es : Es) : TT := fun σ H Q => ∃ β env S, Sim N β S H ∧ EnvR N.K β H env σ ∧ Want N RB β H ((evAnd Y es env S).bind fun x S1 => match truthD S1 x with
  | some b => .ok b S1
  | none => .no) Q
def tOnT (N : Nm) (Y : Fs) (es : Es) : TT := fun σ H Q => ∃ β env S, Sim N β S H ∧ EnvR N.K β H env σ ∧ Want N RB β H ((evOr Y es env S).bind fun x S1 => match truthD S1 x with
  | some b => .ok b S1
  | none => .no) Q
variable {e e' : E} {es : Es} {x1 x2 : PySem.Expr} {xs : List PySem.Expr}
theorem an_one (h : PE X x1 (tE N Y e)) : PE X (.BoolOp .And [x1] pos) (tAn N Y (.cons e .nil)) := pe_one h
theorem on_one (h : PE X x1 (tE N Y e)) : PE X (.BoolOp .Or [x1] pos) (tOn N Y (.cons e .nil)) := pe_one h
theorem an_cons (hK : X.K = N.K) (h : PE X x1 (tE N Y e)) (hr : PE X (.BoolOp .And (x2 :: xs) pos) (tAn N Y (.cons e' es))) : PE X (.BoolOp .And (x1 :: x2 :: xs) pos) (tAn N Y (.cons e (.cons e' es))) := by
  have p := pe_andT h hr
  rw [hK] at p
  refine PE.imp p fun σ H Q q => ?_
  obtain ⟨β, env, S, sm, er, w⟩ := q
  unfold evAnd at w
  refine tE_bind (R' := RD N) sm er w fun d S1 β1 H1 v y1 sm1 er1 r1 w1 => ?_
  split at w1
  · rename_i ht
    exact ⟨true, tru_rel sm1 r1 ht, iteT ⟨β1, env, S1, sm1, er1, w1⟩⟩
  · rename_i ht
    exact ⟨false, tru_rel sm1 r1 ht, iteF (w1.here sm1 r1)⟩
  · exact w1.elim
theorem on_cons (hK : X.K = N.K) (h : PE X x1 (tE N Y e)) (hr : PE X (.BoolOp .Or (x2 :: xs) pos) (tOn N Y (.cons e' es))) : PE X (.BoolOp .Or (x1 :: x2 :: xs) pos) (tOn N Y (.cons e (.cons e' es))) := by
  have p := pe_orT h hr
  rw [hK] at p
  refine PE.imp p fun σ H Q q => ?_
  obtain ⟨β, env, S, sm, er, w⟩ := q
  unfold evOr at w
  refine tE_bind (R' := RD N) sm er w fun d S1 β1 H1 v y1 sm1 er1 r1 w1 => ?_
  split at w1
  · rename_i ht
    exact ⟨true, tru_rel sm1 r1 ht, iteT (w1.here sm1 r1)⟩
  · rename_i ht
    exact ⟨false, tru_rel sm1 r1 ht, iteF ⟨β1, env, S1, sm1, er1, w1⟩⟩
  · exact w1.elim
theorem ant_one (h : PT X x1 (tT N Y e)) : PW X (.BoolOp .And [x1] pos) (tAnT N Y (.cons e .nil)) := pw_and1 h
theorem ont_one (h : PT X x1 (tT N Y e)) : PW X (.BoolOp .Or [x1] pos) (tOnT N Y (.cons e .nil)) := pw_or1 h
theorem ant_cons (h : PT X x1 (tT N Y e)) (hr : PW X (.BoolOp .And (x2 :: xs) pos) (tAnT N Y (.cons e' es))) : PW X (.BoolOp .And (x1 :: x2 :: xs) pos) (tAnT N Y (.cons e (.cons e' es))) := by
  refine PW.imp (pw_and h hr) fun σ H Q q => ?_
  obtain ⟨β, env, S, sm, er, w⟩ := q
  unfold evAnd at w
  refine tT_bind (R' := RB) (f := fun t S1 => if t = true then (evAnd Y (.cons e' es) env S1).bind (fun x S1 => match truthD S1 x with
    | some b => .ok b S1
    | none => .no) else .ok false S1) (Q := Q) sm er ?_ fun d S1 β1 H1 y1 sm1 er1 w1 => ?_
  · rw [out_assoc] at w
    unfold evT
    rw [out_assoc]
    cases ho : ev Y e env S with
    | no => rw [ho] at w; exact w
    | exc c fs S => rw [ho] at w; exact w
    | ok d S1 =>
      rw [ho] at w
      simp only [Out.bind] at w ⊢
      cases ht : truthD S1 d with
      | none => rw [ht] at w; exact w
      | some k =>
        rw [ht] at w
        cases k with
        | true => exact w
        | false =>
          simp only [ht] at w
          exact w
  · cases d with
    | true => exact iteT ⟨β1, env, S1, sm1, er1, w1⟩
    | false => exact iteF (w1.here sm1 rfl)
theorem ont_cons (h : PT X x1 (tT N Y e)) (hr : PW X (.BoolOp .Or (x2 :: xs) pos) (tOnT N Y (.cons e' es))) : PW X (.BoolOp .Or (x1 :: x2 :: xs) pos) (tOnT N Y (.cons e (.cons e' es))) := by
  refine PW.imp (pw_or h hr) fun σ H Q q => ?_
  obtain ⟨β, env, S, sm, er, w⟩ := q
  unfold evOr at w
  refine tT_bind (R' := RB) (f := fun t S1 => if t = true then .ok true S1 else (evOr Y (.cons e' es) env S1).bind (fun x S1 => match truthD S1 x with
    | some b => .ok b S1
    | none => .no)) (Q := Q) sm er ?_ fun d S1 β1 H1 y1 sm1 er1 w1 => ?_
  · rw [out_assoc] at w
    unfold evT
    rw [out_assoc]
    cases ho : ev Y e env S with
    | no => rw [ho] at w; exact w
    | exc c fs S => rw [ho] at w; exact w
    | ok d S1 =>
      rw [ho] at w
      simp only [Out.bind] at w ⊢
      cases ht : truthD S1 d with
      | none => rw [ht] at w; exact w
      | some k =>
        rw [ht] at w
        cases k with
        | false => exact w
        | true =>
          simp only [ht] at w
          exact w
  · cases d with
    | true => exact iteT (w1.here sm1 rfl)
    | false => exact iteF ⟨β1, env, S1, sm1, er1, w1⟩
end
end Mi

namespace Mi
open PySem L2 PySem.Spec PyProof.Rows

section
variable {X : Cx} {N : Nm} {Y : Fs} {ea eb ec : PySem.Expr} {a b c : E} {es : Es} {xs : List PySem.Expr} {pos : Pos}

/-! ### lists of parts -/
theorem es_nil : PA X [] (tEs N Y .nil) :=
  PA.imp pa_nil fun σ H Q h => by
    obtain ⟨β, env, S, sm, er, w⟩ := h
    exact w.here sm .nil
theorem es_cons (hs : starEach (ea :: xs) X.env = (false, eval ea X.env) :: starEach xs X.env) (h1 : PE X ea (tE N Y a)) (h2 : PA X xs (tEs N Y es)) : PA X (ea :: xs) (tEs N Y (.cons a es)) :=
  PA.imp (pa_cons h1 h2 hs) fun σ H Q h => by
    obtain ⟨β, env, S, sm, er, w⟩ := h
    refine tE_bind (R' := RDs N) sm er w fun d S1 β1 H1 v x1 sm1 er1 r1 w1 => ?_
    refine tEs_bind (R' := RDs N) sm1 er1 w1 fun d2 S2 β2 H2 v2 x2 sm2 er2 r2 w2 => ?_
    exact w2.here sm2 (.cons (r1.nxt sm1 x2) r2)
theorem e_tup {k : Nat} (h : PA X xs (tEs N Y es)) : PE X (.Tuple xs k pos) (tE N Y (.tup es)) :=
  PE.imp (pe_tup h) fun σ H Q h => by
    obtain ⟨β, env, S, sm, er, w⟩ := h
    refine tEs_bind (R' := RD N) sm er w fun d S1 β1 H1 v x1 sm1 er1 r1 w1 => ?_
    split at w1
    · rename_i hl
      exact ⟨by rw [← r1.length, ← lim_eq]; exact hl, w1.tup sm1 r1⟩
    · exact w1.elim
theorem e_lst (h : PA X xs (tEs N Y es)) : PE X (.List xs pos) (tE N Y (.lst es)) :=
  PE.imp (pe_lst h) fun σ H Q h => by
    obtain ⟨β, env, S, sm, er, w⟩ := h
    refine tEs_bind (R' := RD N) sm er w fun d S1 β1 H1 v x1 sm1 er1 r1 w1 => ?_
    split at w1
    · rename_i hl
      exact ⟨by rw [← r1.length, ← lim_eq]; exact hl, w1.newL sm1 r1⟩
    · exact w1.elim
theorem e_idx (hK : X.K = N.K) (hu : X.A.units + 1 < cLine) (hs : PlainIx eb) (ha : PE X ea (tE N Y a)) (hb : PE X eb (tE N Y b)) : PE X (.Subscript ea eb pos) (tE N Y (.idx a b)) :=
  PE.imp (pe_ix (ix_all hK hu) ha hb hs) fun σ H Q h => by
    obtain ⟨β, env, S, sm, er, w⟩ := h
    refine tE_bind (R' := RD N) sm er w fun d S1 β1 H1 v x1 sm1 er1 r1 w1 => ?_
    refine tE_bind (R' := RD N) sm1 er1 w1 fun d2 S2 β2 H2 v2 x2 sm2 er2 r2 w2 => ?_
    exact ⟨β2, S2, d, d2, sm2, r1.nxt sm1 x2, r2, w2⟩
theorem e_slc00 (hK : X.K = N.K) {lo hi : E} {p2 : Pos} (ha : PE X ea (tE N Y a)) : PE X (.Subscript ea (.Slice none none none p2) pos) (tE N Y (.slc a false false lo hi)) :=
  PE.imp (pe_slice (sl_all hK) ha po_none po_none) fun σ H Q h => by
    obtain ⟨β, env, S, sm, er, w⟩ := h
    refine tE_bind (R' := RD N) sm er w fun d S1 β1 H1 v x1 sm1 er1 r1 w1 => ?_
    exact ⟨β1, S1, d, sm1, r1, w1⟩
theorem e_slc10 (hK : X.K = N.K) {lo hi : E} {p2 : Pos} (ha : PE X ea (tE N Y a)) (hb : PE X eb (tE N Y lo)) : PE X (.Subscript ea (.Slice (some eb) none none p2) pos) (tE N Y (.slc a true false lo hi)) :=
  PE.imp (pe_slice (sl_all hK) ha (po_some hb) po_none) fun σ H Q h => by
    obtain ⟨β, env, S, sm, er, w⟩ := h
    refine tE_bind (R' := RD N) sm er w fun d S1 β1 H1 v x1 sm1 er1 r1 w1 => ?_
    refine tE_bind (R' := RD N) sm1 er1 w1 fun d2 S2 β2 H2 v2 x2 sm2 er2 r2 w2 => ?_
    split at w2
    · cases r2
      exact ⟨_, rfl, ⟨β2, S2, d, sm2, r1.nxt sm1 x2, w2⟩⟩
    · exact w2.elim
theorem e_slc01 (hK : X.K = N.K) {lo hi : E} {p2 : Pos} (ha : PE X ea (tE N Y a)) (hb : PE X eb (tE N Y hi)) : PE X (.Subscript ea (.Slice none (some eb) none p2) pos) (tE N Y (.slc a false true lo hi)) :=
  PE.imp (pe_slice (sl_all hK) ha po_none (po_some hb)) fun σ H Q h => by
    obtain ⟨β, env, S, sm, er, w⟩ := h
    refine tE_bind (R' := RD N) sm er w fun d S1 β1 H1 v x1 sm1 er1 r1 w1 => ?_
    refine tE_bind (R' := RD N) sm1 er1 w1 fun d2 S2 β2 H2 v2 x2 sm2 er2 r2 w2 => ?_
    split at w2
    · cases r2
      exact ⟨_, rfl, ⟨β2, S2, d, sm2, r1.nxt sm1 x2, w2⟩⟩
    · exact w2.elim
theorem e_slc11 (hK : X.K = N.K) {lo hi : E} {p2 : Pos} (ha : PE X ea (tE N Y a)) (hb : PE X eb (tE N Y lo)) (hc : PE X ec (tE N Y hi)) : PE X (.Subscript ea (.Slice (some eb) (some ec) none p2) pos) (tE N Y (.slc a true true lo hi)) :=
  PE.imp (pe_slice (sl_all hK) ha (po_some hb) (po_some hc)) fun σ H Q h => by
    obtain ⟨β, env, S, sm, er, w⟩ := h
    refine tE_bind (R' := RD N) sm er w fun d S1 β1 H1 v x1 sm1 er1 r1 w1 => ?_
    refine tE_bind (R' := RD N) sm1 er1 w1 fun d2 S2 β2 H2 v2 x2 sm2 er2 r2 w2 => ?_
    cases d2 with
    | int i =>
      cases r2
      refine ⟨_, rfl, ?_⟩
      refine tE_bind (R' := RD N) sm2 er2 w2 fun d3 S3 β3 H3 v3 x3 sm3 er3 r3 w3 => ?_
      split at w3
      · rename_i e
        cases e
        cases r3
        exact ⟨_, rfl, ⟨β3, S3, d, sm3, (r1.nxt sm1 x2).nxt sm2 x3, w3⟩⟩
      · exact w3.elim
    | _ =>
      exfalso
      cases ho : ev Y hi env S2 with
      | ok d3 S3 =>
        rw [ho] at w2
        exact w2
      | exc c fs S => rw [ho] at w2; exact w2
      | no => rw [ho] at w2; exact w2
/-- calls -/
def spF (N : Nm) (F : List D → Sto → Out D) : Sp := fun vs H Q _ => ∃ β S ds, Sim N β S H ∧ VRs N.K β H ds vs ∧ Want N (RD N) β H (F ds S) Q
structure CalledAs (X : Cx) (N : Nm) (Y : Fs) (f : Nat) (x : Str) : Prop where
  ex : ∃ (fa : Addr) (fd : FuncData) (ps : List Str) (k : Nat), X.mg x = some (.ref fa) ∧ PySem.W.keepIn X.K (.ref fa) = true ∧ FnOk X.prog X.w X.K X.mg X.base CX0 k fa fd ps (spF N (Y.f f)) ∧ Room k X.A ∧ Binds X.K fd ps []
theorem e_call0 {f : Nat} {x : Str} {p : Pos} (C : CalledAs X N Y f x) (hg : Gl X x) (hdb : (x == ("__debug__" : Str)) = false) : PE X (.Call (.Name x p) [] [] pos) (tE N Y (.call f .nil)) := by
  obtain ⟨fa, fd, ps, k, hm, hk, F, hr, hb⟩ := C.ex
  refine PE.imp (pe_call0 (dvs := []) F hr hg hm hk hb .nil pass0 hdb) fun σ H Q q => ?_
  obtain ⟨β, env, S, sm, er, w⟩ := q
  exact ⟨β, S, [], sm, .nil, w⟩
theorem e_call {f : Nat} {x : Str} {p : Pos} (C : CalledAs X N Y f x) (hg : Gl X x) (hdb : (x == ("__debug__" : Str)) = false) (h1 : starEach (ea :: xs) X.env = (false, eval ea X.env) :: starEach xs X.env) (h2 : (backTo pos (starEach xs X.env)).any (·.1) = false)
    (h : PA X (ea :: xs) (tEs N Y es)) : PE X (.Call (.Name x p) (ea :: xs) [] pos) (tE N Y (.call f es)) := by
  obtain ⟨fa, fd, ps, k, hm, hk, F, hr, hb⟩ := C.ex
  refine PE.imp (pe_call (dvs := []) F hr hg hm hk hb .nil pass0 h hdb h1 h2) fun σ H Q h => ?_
  obtain ⟨β, env, S, sm, er, w⟩ := h
  refine tEs_bind (R' := RD N) sm er w fun d S1 β1 H1 v x1 sm1 er1 r1 w1 => ?_
  exact ⟨β1, S1, d, sm1, by rw [List.append_nil]; exact r1, w1⟩
theorem e_bi (hK : X.K = N.K) (hc : X.calm = true) {f : BI} {x : Str} {p : Pos} (hg : Gl X x) (hm : X.mg x = none) (hv : bootBuiltins x = some f.val) (hn : x ≠ "__name__") (hdb : (x == ("__debug__" : Str)) = false) (h1 : starEach (ea :: xs) X.env = (false, eval ea X.env) :: starEach xs X.env) (h2 : (backTo pos (starEach xs X.env)).any (·.1) = false)
    (h : PA X (ea :: xs) (tEs N Y es)) : PE X (.Call (.Name x p) (ea :: xs) [] pos) (tE N Y (.bi f es)) := by
  have r := bi_ok (X := X) (N := N) hK hc f
  have key : ∀ σ H Q, tE N Y (.bi f es) σ H Q → tCB (rs N (biD f)) (tEs N Y es) σ H Q := fun σ H Q h => by
    obtain ⟨β, env, S, sm, er, w⟩ := h
    refine tEs_bind (R' := RD N) sm er w fun d S1 β1 H1 v x1 sm1 er1 r1 w1 => ?_
    exact ⟨β1, S1, d, sm1, r1, w1⟩
  cases f <;> first
    | exact PE.imp (pe_callB r hg hm hv h hn hdb h1 h2) key
    | exact PE.imp (pe_callTy r hg hm hv h hn hdb h1 h2) key

/-! ### methods -/
theorem bmK_ty {m : BM} {d : D} {S : Sto} {β : Bt} {H : Hp} {v : V} (sm : Sim N β S H) (r : VR N.K β H d v) (h : bmK m d S = true) : tyV N.K (if m.isL = true then "list" else "dict") v H := by
  unfold bmK at h
  split at h
  · cases r with
    | ref hb =>
      split at h
      · rename_i hx
        obtain ⟨vs, e, _⟩ := sm.at hb hx
        have hl : m.isL = true := by cases m <;> first | rfl | exact h
        rw [hl]
        exact .inl ⟨rfl, vs, SqL.of e⟩
      · rename_i hx
        obtain ⟨ks, e, _⟩ := sm.at hb hx
        have hl : m.isL = false := by cases m <;> first | rfl | exact absurd h Bool.false_ne_true
        rw [hl]
        exact .inr (.inr (.inl ⟨rfl, .inl ⟨ks, e⟩⟩))
      · cases h
  · cases h
def BM.nm : BM → Str
  | .append => "append"
  | .extend => "extend"
  | .pop => "pop"
  | .popAt => "pop"
  | .clear => "clear"
  | .reverse => "reverse"
  | .index => "index"
  | .get1 => "get"
  | .get2 => "get"
  | .update => "update"
def BM.T (m : BM) : String := if m.isL = true then "list" else "dict"
theorem bm_pa (m : BM) : PlainAttrs m.T := by
  cases m <;> first | exact PySem.F.plainAttrs_list | exact PySem.F.plainAttrs_dict
theorem bm_slot (m : BM) : Slot m.T m.nm m.id := by
  cases m
  · exact PySem.F.slot_list_append
  · exact PySem.F.slot_list_extend
  · exact PySem.F.slot_list_pop
  · exact PySem.F.slot_list_pop
  · exact PySem.F.slot_list_clear
  · exact PySem.F.slot_list_reverse
  · exact PySem.F.slot_list_index
  · exact PySem.F.slot_dict_get
  · exact PySem.F.slot_dict_get
  · exact PySem.F.slot_dict_update
theorem bm_type (m : BM) : typeOf (.builtin m.id) = pure (.type "method_descriptor") := by
  cases m
  · exact PySem.F.type_list_append
  · exact PySem.F.type_list_extend
  · exact PySem.F.type_list_pop
  · exact PySem.F.type_list_pop
  · exact PySem.F.type_list_clear
  · exact PySem.F.type_list_reverse
  · exact PySem.F.type_list_index
  · exact PySem.F.type_dict_get
  · exact PySem.F.type_dict_get
  · exact PySem.F.type_dict_update
theorem e_bm0 (hK : X.K = N.K) (hu : X.A.units + 65 < cLine) {m : BM} {apos : Pos} (ha : PE X ea (tE N Y a)) (hbase : attributeBase ea m.nm X.env (eval ea X.env) = eval ea X.env) (hline : (apos.endLine == pos.line) = true) :
    PE X (.Call (.Attribute ea m.nm apos) [] [] pos) (tE N Y (.bm m a .nil)) := by
  have p := pe_bm0 (X := X) (cpos := pos) (apos := apos) (bm_pa m) (bm_slot m) (bm_type m) (bm_ok hK hu m) ha hbase hline
  rw [hK] at p
  refine PE.imp p fun σ H Q h => ?_
  obtain ⟨β, env, S, sm, er, w⟩ := h
  refine tE_bind (R' := RD N) sm er w fun d S1 β1 H1 v x1 sm1 er1 r1 w1 => ?_
  split at w1
  · rename_i hk
    exact ⟨bmK_ty sm1 r1 hk, β1, S1, d, [], sm1, r1, .nil, w1⟩
  · exact w1.elim
theorem e_bm (hK : X.K = N.K) (hu : X.A.units + 65 < cLine) {m : BM} {apos : Pos} (ha : PE X ea (tE N Y a)) (h : PA X (eb :: xs) (tEs N Y es)) (hbase : attributeBase ea m.nm X.env (eval ea X.env) = eval ea X.env)
    (hfew : ((backTo pos (starEach (eb :: xs) X.env)).all (fun x => !x.1) && (backToKw pos (keywordEach [] X.env)).all (fun x => x.1.isSome)
      && decide ((eb :: xs).length + ([] : List Keyword).length + (if ([] : List Keyword).isEmpty then 0 else 1) < 30)) = true)
    (hline : (apos.endLine == pos.line) = true) (h1 : starEach (eb :: xs) X.env = (false, eval eb X.env) :: starEach xs X.env) (h2 : (backTo pos (starEach xs X.env)).any (·.1) = false) :
    PE X (.Call (.Attribute ea m.nm apos) (eb :: xs) [] pos) (tE N Y (.bm m a es)) := by
  have p := pe_bm (X := X) (cpos := pos) (apos := apos) (bm_pa m) (bm_slot m) (bm_type m) (bm_ok hK hu m) ha h hbase hfew hline h1 h2
  rw [hK] at p
  refine PE.imp p fun σ H Q h => ?_
  obtain ⟨β, env, S, sm, er, w⟩ := h
  refine tE_bind (R' := RD N) sm er w fun d S1 β1 H1 v x1 sm1 er1 r1 w1 => ?_
  split at w1
  · rename_i hk
    refine ⟨bmK_ty sm1 r1 hk, ?_⟩
    refine tEs_bind (R' := RD N) sm1 er1 w1 fun d2 S2 β2 H2 v2 x2 sm2 er2 r2 w2 => ?_
    exact ⟨β2, S2, d, d2, sm2, r1.nxt sm1 x2, r2, w2⟩
  · exact w1.elim

/-! ### texts joined -/
theorem strs_rel {K : PySem.W.Frag} {β : Bt} {H : Hp} : ∀ {xs : List D} {vs : List V} {ys : List Str}, VRs K β H xs vs → xs.mapM D.strOf = some ys → vs = ys.map V.str
  | [], _, _, r, h => by
    cases r; simp at h; subst h; rfl
  | d :: ds, _, _, r, h => by
    cases r with
    | cons a b =>
      rw [List.mapM_cons] at h
      simp only [bind, Option.bind_eq_some_iff] at h
      obtain ⟨p, h1, qs, h2, h3⟩ := h
      cases h3
      cases d <;> simp [D.strOf] at h1
      subst h1
      cases a
      rw [strs_rel b h2]
      rfl
theorem e_join {apos : Pos} (hK : X.K = N.K) (ha : PE X ea (tE N Y a)) (hb : PE X eb (tE N Y b)) (hs : starEach [eb] X.env = [(false, eval eb X.env)]) (hbase : attributeBase ea "join" X.env (eval ea X.env) = eval ea X.env) (hline : (apos.endLine == pos.line) = true) :
    PE X (.Call (.Attribute ea "join" apos) [eb] [] pos) (tE N Y (.join a b)) := by
  have p := pe_join (X := X) (pos := pos) (apos := apos) ha hb hs hbase hline
  rw [hK] at p
  refine PE.imp p fun σ H Q h => ?_
  obtain ⟨β, env, S, sm, er, w⟩ := h
  refine tE_bind (R' := RD N) sm er w fun d S1 β1 H1 v x1 sm1 er1 r1 w1 => ?_
  split at w1
  · rename_i s
    cases r1
    refine ⟨⟨s, rfl⟩, ?_⟩
    refine tE_bind (R' := RD N) sm1 er1 w1 fun d2 S2 β2 H2 v2 x2 sm2 er2 r2 w2 => ?_
    unfold joinD at w2
    simp only at w2
    split at w2
    · rename_i ys hy
      split at w2
      · rename_i hl
        obtain ⟨xs, h1, h2⟩ := Option.bind_eq_some_iff.mp hy
        have key : ∃ q, v2 = .ref q ∧ (SqL N.K H2 q (ys.map V.str) ∨ SqT N.K H2 q (ys.map V.str)) := by
          split at h1
          · cases h1
            cases r2 with
            | tup ra rb => exact ⟨_, rfl, .inr (by rw [← strs_rel rb h2]; exact ra)⟩
          · obtain ⟨q, vs, rfl, k1, k2⟩ := sm2.seq r2 h1
            exact ⟨q, rfl, .inl (by rw [← strs_rel k2 h2]; exact k1)⟩
        obtain ⟨q, rfl, hq⟩ := key
        exact ⟨s, q, ys, rfl, rfl, hq, hl, w2.here sm2 (.str _)⟩
      · exact w2.elim
    · exact w2.elim
  · exact w1.elim

/-! ### isinstance -/
theorem e_isi1 (hK : X.K = N.K) {k : KT} {x n : Str} {p p2 : Pos} (hg : Gl X x) (hm : X.mg x = none) (hv : bootBuiltins x = some (.builtin "isinstance")) (hn : x ≠ "__name__") (hdb : (x == ("__debug__" : Str)) = false)
    (hg2 : Gl X n) (hm2 : X.mg n = none) (hv2 : bootBuiltins n = some (.type k.name)) (hn2 : n ≠ "__name__") (hdb2 : (n == ("__debug__" : Str)) = false) (hs : starEach (ea :: [PySem.Expr.Name n p2]) X.env = (false, eval ea X.env) :: starEach [PySem.Expr.Name n p2] X.env)
    (ha : PE X ea (tE N Y a)) : PE X (.Call (.Name x p) [ea, .Name n p2] [] pos) (tE N Y (.isi a true [.b k])) := by
  have r := call_isi (X := X)
  rw [hK] at r
  refine PE.imp (pe_callB r hg hm hv (pa_cons ha (pa_cons (pe_bltn (v := .ty k.name) hg2 hm2 hv2 rfl hn2 hdb2) pa_nil) hs) hn hdb hs) fun σ H Q h => ?_
  obtain ⟨β, env, S, sm, er, w⟩ := h
  refine tE_bind (R' := RD N) sm er w fun d S1 β1 H1 v x1 sm1 er1 r1 w1 => ?_
  obtain ⟨b, hb, q⟩ := Want.obl w1 sm1
  have hb' : isTy S1 d (.b k) = some b := by
    unfold isTys at hb
    split at hb
    · rename_i e; cases hb; exact e
    · rename_i e; simp [isTys] at hb; subst hb; exact e
    · cases hb
  obtain ⟨u, k', e1, e2, e3⟩ := isTy_kit (K := N.K) hb'
  exact ⟨v, .ty k.name, _, _, b, rfl, .ty _, ty_rel sm1 r1 e1, e3, q⟩
def tTys (ts : List Ty) : TA := fun _ H Q => Q (ts.map Ty.val) H
theorem e_isiT (hK : X.K = N.K) {ts : List Ty} {x : Str} {k : Nat} {p p2 : Pos} (hg : Gl X x) (hm : X.mg x = none) (hv : bootBuiltins x = some (.builtin "isinstance")) (hn : x ≠ "__name__") (hdb : (x == ("__debug__" : Str)) = false)
    (hts : PA X xs (tTys ts)) (hown : ∀ t ∈ ts, ∃ k, t = .b k) (hlen : ts.length ≤ 100) (hne : ts ≠ []) (hs : starEach (ea :: [PySem.Expr.Tuple xs k p2]) X.env = (false, eval ea X.env) :: starEach [PySem.Expr.Tuple xs k p2] X.env)
    (ha : PE X ea (tE N Y a)) : PE X (.Call (.Name x p) [ea, .Tuple xs k p2] [] pos) (tE N Y (.isi a false ts)) := by
  have r := call_isiT (X := X)
  rw [hK] at r
  refine PE.imp (pe_callB r hg hm hv (pa_cons ha (pa_cons (pe_tup hts) pa_nil) hs) hn hdb hs) fun σ H Q h => ?_
  obtain ⟨β, env, S, sm, er, w⟩ := h
  refine tE_bind (R' := RD N) sm er w fun d S1 β1 H1 v x1 sm1 er1 r1 w1 => ?_
  obtain ⟨b, hb, q⟩ := Want.obl w1 sm1
  refine ⟨by rw [List.length_map, sizeLine_eq]; omega, fun tp htp => ?_⟩
  have hq : Q (.bl b) (upd H1 tp (.tup (ts.map Ty.val))) := by
    rw [hb] at w1
    exact Want.at (R := RD N) (a := .bl b) (S := S1) w1 (.lay htp) (sm1.lay htp) (.bl b)
  have hu : ∃ u, tyName S1 d = some (.inl u) := by
    cases ts with
    | nil => exact absurd rfl hne
    | cons t ts =>
      unfold isTys at hb
      split at hb
      · rename_i e
        obtain ⟨u, _, e1, _⟩ := isTy_kit (K := N.K) e
        exact ⟨u, e1⟩
      · rename_i e
        obtain ⟨u, _, e1, _⟩ := isTy_kit (K := N.K) e
        exact ⟨u, e1⟩
      · cases hb
  obtain ⟨u, hu⟩ := hu
  have r2 := r1.nxt sm1 (Nxt.lay (o := .tup (ts.map Ty.val)) htp)
  refine ⟨v, tp, ts.map Ty.val, _, ts.map Ty.vl, b, rfl, upd_same, ?_, ty_rel (sm1.lay htp) r2 hu, (isTys_kit (K := N.K) hu hb).1, hq⟩
  clear hb hq hlen w1 hts r hne w r2
  induction ts with
  | nil => exact .nil
  | cons t ts ih =>
    obtain ⟨k, rfl⟩ := hown t (List.mem_cons_self ..)
    exact .cons (.ty _) (ih (fun t ht => hown t (List.mem_cons_of_mem _ ht)))
end
end Mi

/-! zip of two things, each a list or a tuple, whichever stands first. -/
namespace Mi
open PySem L2 PySem.Spec PyProof.Rows RZ
/-- what is zipped: a list, a tuple -/
inductive Sk where
  | l | t
namespace Sk
def it : Sk → Heap → Addr → Addr → Nat → Prop
  | .l, h, i, a, k => h.IsListIter i a k
  | .t, h, i, a, k => h.IsTupleIter i a k
def sq : Sk → Heap → Addr → Array Value → Prop
  | .l, h, a, xs => h.IsList a xs
  | .t, h, a, xs => h.IsTuple a xs
def nm : Sk → String
  | .l => "list_iterator"
  | .t => "tuple_iterator"
def begin (p : Sk) (a : Addr) : Obj := { cls := .type p.nm, data := .fields #[.ref a, .int 0 0] }
/-- the walk's view of it -/
def at_ (p : Sk) (K : PySem.W.Frag) (H : Hp) (a : Addr) (xs : List V) : Prop := match p with
  | .l => SqL K H a xs
  | .t => SqT K H a xs
variable {p : Sk} {h h' : Heap} {i a c : Addr} {k : Nat} {xs : Array Value}
theorem it_ext (x : p.it h i a k) (e : Heap.ExtBut c h h') (n : i ≠ c) : p.it h' i a k := by
  cases p with
  | l => exact Heap.IsListIter.extBut x e n
  | t => exact Heap.IsTupleIter.extBut x e n
theorem it_at (x : p.it h i a k) (e : ∀ o, h.get? i = some o → h'.get? i = some o) : p.it h' i a k := by
  cases p with
  | l => exact Heap.IsListIter.at x e
  | t => exact Heap.IsTupleIter.at x e
theorem it_lt (x : p.it h i a k) : i < h.objs.size := by
  cases p with
  | l => obtain ⟨_, e, _⟩ := x; exact Heap.lt_size e
  | t => obtain ⟨_, e, _⟩ := x; exact Heap.lt_size e
theorem it_obj (x : p.it h i a k) : ∃ o, h.get? i = some o ∧ ∀ v, o.data ≠ .cell v := by
  cases p with
  | l => obtain ⟨o, e, _, d⟩ := x; exact ⟨o, e, fun v q => by rw [d] at q; cases q⟩
  | t => obtain ⟨o, e, _, d⟩ := x; exact ⟨o, e, fun v q => by rw [d] at q; cases q⟩
theorem it_new (e : h.get? i = some (p.begin a)) : p.it h i a 0 := by
  cases p with
  | l => exact ⟨_, e, rfl, rfl⟩
  | t => exact ⟨_, e, rfl, rfl⟩
theorem sq_ext (x : p.sq h a xs) (e : Heap.ExtBut c h h') (n : a ≠ c) : p.sq h' a xs := by
  cases p with
  | l => exact Heap.IsList.extBut x e n
  | t => exact Heap.IsTuple.extBut x e n
theorem sq_push (x : p.sq h a xs) (o : Obj) : p.sq (h.push o) a xs := by
  cases p with
  | l => exact Heap.IsList.push x o
  | t => exact Heap.IsTuple.push x o
theorem sq_lt (x : p.sq h a xs) : a < h.objs.size := by
  cases p with
  | l => obtain ⟨o, e, _⟩ := x; exact Heap.lt_size e
  | t => obtain ⟨o, e, _⟩ := x; exact Heap.lt_size e
section
variable {prog : Program} {w : World} {A : Around} {E : Value → Shared → Prop} {s : Shared}
theorem item {x : Value} {Q : Value → Shared → Prop} (hi : p.it s.heap i a k) (hs : p.sq s.heap a xs) (hx : xs[k]? = some x) (h : ∀ h', p.it h' i a (k + 1) → Heap.SameBut i s.heap h' → Q x { s with heap := h' }) :
    wpAny (model prog w) A (Builtin.SmallTypes.nextOf (.ref i)) Q E s := by
  cases p with
  | l => exact wpAny_nextOf_list_item hi hs hx h
  | t => exact nextOf_tuple_item hi hs hx h
theorem stop {Q : Value → Shared → Prop} (hh : A.handled = none) (hi : p.it s.heap i a k) (hs : p.sq s.heap a xs) (hx : xs[k]? = none) (h : ∀ h' e, Heap.ExtBut i s.heap h' → (∃ o, h'.get? e = some o ∧ o.cls = .type "StopIteration") → E (.ref e) { s with heap := h' }) :
    wpAny (model prog w) A (Builtin.SmallTypes.nextOf (.ref i)) Q E s := by
  cases p with
  | l => exact wpAny_nextOf_list_end hh hi hs hx h
  | t => exact nextOf_tuple_end hh hi hs hx h
theorem iter {Q : Value → Shared → Prop} (hs : p.sq s.heap a xs) (h : Q (.ref s.heap.objs.size) { s with heap := s.heap.push (p.begin a) }) : wpAny (model prog w) A (pyIter (.ref a)) Q E s := by
  cases p with
  | l => exact wpAny_pyIter_list hs h
  | t => exact wpAny_pyIter_tuple hs h
end
end Sk
/-- the zip's own things within a heap -/
structure Zp (h : Heap) (z TI TO i1 i2 : Addr) (f a b : Value) : Prop where
  z : IsZip h z TI TO f
  ti : IsPair h TI (.ref i1) (.ref i2)
  to : IsPair h TO a b
section
variable {prog : Program} {w : World} {A : Around} {E : Value → Shared → Prop} {s : Shared}
variable {z TI TO i1 i2 l1 l2 : Addr}
/-- another heap in which all but the zip's own things stayed -/
def Kept (z TO i1 i2 : Addr) (h h' : Heap) : Prop := ∀ c o, c ≠ z → c ≠ TO → c ≠ i1 → c ≠ i2 → h.get? c = some o → h'.get? c = some o
theorem Kept.refl (h : Heap) : Kept z TO i1 i2 h h := fun _ _ _ _ _ _ e => e
theorem Kept.zz {h h1 h2 : Heap} (k : Kept z TO i1 i2 h h1) (e : Heap.ExtBut z h1 h2) : Kept z TO i1 i2 h h2 := fun c o a b d f q => e _ _ a (k c o a b d f q)
theorem Kept.t {h h1 h2 : Heap} (k : Kept z TO i1 i2 h h1) (e : Heap.ExtBut TO h1 h2) : Kept z TO i1 i2 h h2 := fun c o a b d f q => e _ _ b (k c o a b d f q)
theorem Kept.i {h h1 h2 : Heap} (k : Kept z TO i1 i2 h h1) (e : Heap.ExtBut i1 h1 h2) : Kept z TO i1 i2 h h2 := fun c o a b d f q => e _ _ d (k c o a b d f q)
theorem Kept.j {h h1 h2 : Heap} (k : Kept z TO i1 i2 h h1) (e : Heap.ExtBut i2 h1 h2) : Kept z TO i1 i2 h h2 := fun c o a b d f q => e _ _ f (k c o a b d f q)
/-- the head of zip's next: its pair is free -/
theorem zs_next {p q : Sk} {k1 k2 : Nat} {xs ys : Array Value} {a b : Value} {Q : Value → Shared → Prop} (hh : xs[k1]? = none ∨ ys[k2]? = none → A.handled = none) (D : ZipApart z TI TO i1 i2 l1 l2)
    (hZ : Zp s.heap z TI TO i1 i2 .none a b) (h1 : p.it s.heap i1 l1 k1) (h2 : q.it s.heap i2 l2 k2) (hl1 : p.sq s.heap l1 xs) (hl2 : q.sq s.heap l2 ys)
    (hQ : ∀ x y, xs[k1]? = some x → ys[k2]? = some y → ∀ h', IsZip h' z TI TO (rawInt s.heap.objs.size) → IsPair h' TO x y → p.it h' i1 l1 (k1 + 1) → q.it h' i2 l2 (k2 + 1) → IsPair h' s.heap.objs.size x y → h'.objs.size = s.heap.objs.size + 1 →
      Kept z TO i1 i2 s.heap h' → Q (.ref s.heap.objs.size) { s with heap := h' })
    (hE : xs[k1]? = none ∨ ys[k2]? = none → ∀ h' e, Kept z TO i1 i2 s.heap h' → (∃ o, h'.get? e = some o ∧ o.cls = .type "StopIteration") → E (.ref e) { s with heap := h' }) :
    wpAny (model prog w) A (Builtin.«zip.__next__» ⟨[.ref z], []⟩) (fun fin s' => ∃ v, fin = .done (.ret v) ∧ Q v s') E s := by
  obtain ⟨hz, hti, hto⟩ := hZ
  show wpAny _ _ (field (.ref z) 2 >>= _) _ _ _
  refine wpAny_bind (wpAny_field hz rfl (x := .bool false) rfl ?_)
  show wpAny _ _ (field (.ref z) 3 >>= _) _ _ _
  refine wpAny_bind (wpAny_field hz rfl (x := .ref TI) rfl (wpAny_bind (wpAny_seqItems hti rfl ?_)))
  show wpAny _ _ (Builtin.SmallTypes.ownedTupleIsFree (.ref z) >>= _) _ _ _
  have free : ∀ {R : Bool → Shared → Prop}, R true s → wpAny (model prog w) A (Builtin.SmallTypes.ownedTupleIsFree (.ref z)) R E s := fun {R} r => by
    unfold Builtin.SmallTypes.ownedTupleIsFree
    exact wpAny_bind (wpAny_field hz rfl (x := .none) rfl (wpAny_pure r))
  refine wpAny_bind (free ?_)
  simp only [if_true]
  refine wpAny_bind (wpAny_rule (wpAny_bind (wpAny_field hz rfl (x := .ref TO) rfl ?_)))
  refine wpAny_bind (wpAny_setField_rec hz (by simp) fun g1 gz1 gs1 => ?_)
  replace gz1 : IsZip g1 z TI TO .ellipsis := gz1
  have w1 := gs1.1
  have gs1 := gs1.extBut
  have n1 : Kept z TO i1 i2 s.heap g1 := (Kept.refl _).zz gs1
  refine wpAny_bind ?_
  simp only [List.zipIdx_cons, List.zipIdx_nil, List.forIn_cons, List.forIn_nil]
  refine wpAny_bind (wpAny_bind (wpAny_onRaise ?_))
  show wpAny _ _ (Builtin.SmallTypes.nextOf (.ref i1) >>= _) _ _ _
  have a1 := Sk.it_ext h1 gs1 D.i1z
  have b1 := Sk.it_ext h2 gs1 D.i2z
  have c1 := Sk.sq_ext hl1 gs1 D.l1z
  have d1 := Sk.sq_ext hl2 gs1 D.l2z
  cases hx : xs[k1]? with
  | none =>
    refine wpAny_bind (Sk.stop (hh (.inl hx)) a1 c1 hx fun g2 e gs2 ⟨oe, ho, hc⟩ => ?_)
    have gz2 : IsZip g2 z TI TO .ellipsis := gs2 _ _ D.i1z.symm gz1
    have ne : e ≠ z := fun q => by subst q; rw [gz2] at ho; cases ho; simp at hc
    exact wpAny_setField_rec gz2 (by simp) fun g3 _ gs3 => hE (.inl hx) g3 e ((n1.i gs2).zz gs3.extBut) ⟨oe, gs3.extBut _ _ ne ho, hc⟩
  | some x =>
    refine wpAny_bind (Sk.item a1 c1 hx fun g2 a2 gs2 => wpAny_pure ?_)
    have w2 := gs2.1
    have gs2 := gs2.extBut
    have n2 := n1.i gs2
    have t2 : IsPair g2 TO a b := gs2 _ _ D.TOi1 (gs1 _ _ D.TOz hto)
    refine wpAny_bind (wpAny_seqItems t2 rfl (wpAny_bind (wpAny_updateSeq_pair t2 fun g3 t3 gs3 => ?_)))
    replace t3 : IsPair g3 TO x b := t3
    have w3 := gs3.1
    have gs3 := gs3.extBut
    have n3 := n2.t gs3
    refine wpAny_bind (wpAny_letGo (wpAny_pure ?_))
    refine wpAny_bind (wpAny_bind (wpAny_onRaise ?_))
    show wpAny _ _ (Builtin.SmallTypes.nextOf (.ref i2) >>= _) _ _ _
    have a3 := Sk.it_ext a2 gs3 D.TOi1.symm
    have b3 := Sk.it_ext (Sk.it_ext b1 gs2 D.i12.symm) gs3 D.TOi2.symm
    have d3 := Sk.sq_ext (Sk.sq_ext d1 gs2 D.l2i1) gs3 D.l2TO
    have z3 : IsZip g3 z TI TO .ellipsis := gs3 _ _ D.TOz.symm (gs2 _ _ D.i1z.symm gz1)
    cases hy : ys[k2]? with
    | none =>
      refine wpAny_bind (Sk.stop (hh (.inr hy)) b3 d3 hy fun g4 e gs4 ⟨oe, ho, hc⟩ => ?_)
      have z4 : IsZip g4 z TI TO .ellipsis := gs4 _ _ D.i2z.symm z3
      have ne : e ≠ z := fun q => by subst q; rw [z4] at ho; cases ho; simp at hc
      exact wpAny_setField_rec z4 (by simp) fun g5 _ gs5 => hE (.inr hy) g5 e ((n3.j gs4).zz gs5.extBut) ⟨oe, gs5.extBut _ _ ne ho, hc⟩
    | some y =>
      refine wpAny_bind (Sk.item b3 d3 hy fun g4 b4 gs4 => wpAny_pure ?_)
      have t4 : IsPair g4 TO x b := gs4.extBut _ _ D.TOi2 t3
      refine wpAny_bind (wpAny_seqItems t4 rfl (wpAny_bind (wpAny_updateSeq_pair t4 fun g5 t5 gs5 => ?_)))
      replace t5 : IsPair g5 TO x y := t5
      refine wpAny_bind (wpAny_letGo (wpAny_pure (wpAny_pure ?_)))
      refine wpAny_bind (wpAny_seqItems t5 rfl (wpAny_bind (wpAny_newTuple ?_)))
      have hsz : g5.objs.size = s.heap.objs.size := by rw [gs5.1, gs4.1, w3, w2, w1]
      have z5 : IsZip g5 z TI TO .ellipsis := gs5.extBut _ _ D.TOz.symm (gs4.extBut _ _ D.i2z.symm z3)
      have n5 := (n3.j gs4.extBut).t gs5.extBut
      have a5 := Sk.it_ext (Sk.it_ext a3 gs4.extBut D.i12) gs5.extBut D.TOi1.symm
      have b5 := Sk.it_ext b4 gs5.extBut D.TOi2.symm
      have zlt : z < g5.objs.size := Heap.lt_size z5
      have z6 : IsZip (g5.push { cls := .type "tuple", data := .seq #[x, y] }) z TI TO .ellipsis := Heap.get?_push_of_some _ z5
      show wpAny _ _ (Builtin.SmallTypes.ownedTupleHandOut (.ref z) (.ref g5.objs.size) >>= _) _ _ _
      refine wpAny_bind ?_
      unfold Builtin.SmallTypes.ownedTupleHandOut
      refine wpAny_bind (wpAny_setField_rec z6 (by simp) fun g7 z7 gs7 => ?_)
      replace z7 : IsZip g7 z TI TO (rawInt g5.objs.size) := z7
      refine wpAny_setField_rec z7 (by simp) fun g8 z8 gs8 => ?_
      replace z8 : IsZip g8 z TI TO (rawInt g5.objs.size) := z8
      have up : Heap.ExtBut z g5 g8 := fun c o c1 e => gs8.extBut _ _ c1 (gs7.extBut _ _ c1 (Heap.get?_push_of_some _ e))
      have new : IsPair g8 g5.objs.size x y := gs8.extBut _ _ (Nat.ne_of_gt zlt) (gs7.extBut _ _ (Nat.ne_of_gt zlt) (Heap.get?_push_size _ rfl))
      have sz8 : g8.objs.size = g5.objs.size + 1 := by rw [gs8.1, gs7.1, Heap.size_push]
      rw [hsz] at z8 new sz8
      refine wpAny_pure ⟨_, rfl, ?_⟩
      show Q (.ref g5.objs.size) _
      rw [hsz]
      exact hQ x y hx hy g8 z8 (up _ _ D.TOz t5) (Sk.it_ext a5 up D.i1z) (Sk.it_ext b5 up D.i2z) new sz8 (n5.zz up)
theorem zs_py {p q : Sk} {k1 k2 : Nat} {xs ys : Array Value} {a b : Value} {Q : Option Value → Shared → Prop} (hh : xs[k1]? = none ∨ ys[k2]? = none → A.handled = none) (D : ZipApart z TI TO i1 i2 l1 l2)
    (hZ : Zp s.heap z TI TO i1 i2 .none a b) (h1 : p.it s.heap i1 l1 k1) (h2 : q.it s.heap i2 l2 k2) (hl1 : p.sq s.heap l1 xs) (hl2 : q.sq s.heap l2 ys)
    (hQ : ∀ x y, xs[k1]? = some x → ys[k2]? = some y → ∀ h', IsZip h' z TI TO (rawInt s.heap.objs.size) → IsPair h' TO x y → p.it h' i1 l1 (k1 + 1) → q.it h' i2 l2 (k2 + 1) → IsPair h' s.heap.objs.size x y → h'.objs.size = s.heap.objs.size + 1 →
      Kept z TO i1 i2 s.heap h' → Q (some (.ref s.heap.objs.size)) { s with heap := h' })
    (hE : xs[k1]? = none ∨ ys[k2]? = none → ∀ h', Kept z TO i1 i2 s.heap h' → Q none { s with heap := h' }) : wpAny (model prog w) A (pyNext (.ref z)) Q E s := by
  have hT : s.TypeIs (.ref z) "zip" := ⟨_, hZ.z, rfl⟩
  unfold pyNext
  refine wpAny_bind (wpAny_attempt (wpAny_callSpecial?_slot (name := Str.ofString "__next__") hT F.slot_zip_next
    (wpAny_call_entry F.slot_zip_next hT F.entry_zip_next (zs_next (Q := fun v s' => wpAny (model prog w) A (pure (some v)) Q E s') hh D hZ h1 h2 hl1 hl2 ?_ ?_) (F.args_zip_next_1 _))))
  · exact fun x y e1 e2 h' a1 a2 a3 a4 a5 a6 a7 => wpAny_pure (hQ x y e1 e2 h' a1 a2 a3 a4 a5 a6 a7)
  · rintro e0 h' e k ⟨o, ho, hc⟩
    exact wpAny_bind (wpAny_isInstance (T := "StopIteration") (b := true) ⟨o, ho, hc⟩ isSubtype_stop (wpAny_pure (hE e0 _ k)))
/-- the heap that a new zip makes, thing by thing -/
abbrev zN (p q : Sk) (l1 l2 : Addr) (h : Heap) : Heap := ((((h.push (p.begin l1)).push (q.begin l2)).push { cls := .type "tuple", data := .seq #[.ref h.objs.size, .ref (h.push (p.begin l1)).objs.size] }).push
  { cls := .type "tuple", data := .seq #[.none, .none] })
abbrev zN' (p q : Sk) (l1 l2 : Addr) (h : Heap) : Heap := (zN p q l1 l2 h).push
  { cls := .type "zip", data := .fields #[.none, .bool false, .bool false, .ref ((h.push (p.begin l1)).push (q.begin l2)).objs.size, .ref (((h.push (p.begin l1)).push (q.begin l2)).push { cls := .type "tuple", data := .seq #[.ref h.objs.size, .ref (h.push (p.begin l1)).objs.size] }).objs.size] }
theorem zs_new (p q : Sk) (l1 l2 : Addr) (xs ys : Array Value) :
    Meets (Builtin.«zip.__new__» ⟨[.type "zip", .ref l1, .ref l2], []⟩) (fun _ R s => p.sq s.heap l1 xs ∧ q.sq s.heap l2 ys ∧ R (.ok (.ret (.ref (zN p q l1 l2 s.heap).objs.size))) { s with heap := zN' p q l1 l2 s.heap }) :=
  .of_wp fun prog w A R s h => by
    obtain ⟨hp, g, d, tk, os⟩ := s; obtain ⟨x1, x2, h⟩ := h
    have hsub := sub_zip
    have y1 : p.sq (Shared.heap ⟨hp, g, d, tk, os⟩) l1 xs := x1
    have y2 : q.sq (Shared.heap ⟨hp.push (p.begin l1), g, d, tk, os⟩) l2 ys := Sk.sq_push x2 _
    wp_walk using Sk.iter y1, Sk.iter y2
    exact ⟨_, rfl, h⟩
theorem zs_call {p q : Sk} {xs ys : Array Value} {Q : Value → Shared → Prop} (hl1 : p.sq s.heap l1 xs) (hl2 : q.sq s.heap l2 ys)
    (h : ∀ h', Zp h' (s.heap.objs.size + 4) (s.heap.objs.size + 2) (s.heap.objs.size + 3) s.heap.objs.size (s.heap.objs.size + 1) .none .none .none → p.it h' s.heap.objs.size l1 0 → q.it h' (s.heap.objs.size + 1) l2 0 → h'.objs.size = s.heap.objs.size + 5 →
      (∀ c o, s.heap.get? c = some o → h'.get? c = some o) → Q (.ref (s.heap.objs.size + 4)) { s with heap := h' }) :
    wpAny (model prog w) A (call (.type "zip") [.ref l1, .ref l2]) Q E s := by
  refine callType_new F.called_zip (by decide) (F.typeCall_zip_2 _ _) (F.newCall_zip_2 _ _) (fun obj => F.args_object_init_3 obj _ _) F.entry_zip_new (zs_new p q l1 l2 xs ys) ⟨hl1, hl2, ?_⟩
  generalize hz : zN' p q l1 l2 s.heap = h5
  have s1 : (s.heap.push (p.begin l1)).objs.size = s.heap.objs.size + 1 := Heap.size_push ..
  have s2 : ((s.heap.push (p.begin l1)).push (q.begin l2)).objs.size = s.heap.objs.size + 2 := by rw [Heap.size_push, s1]
  have s3 : (((s.heap.push (p.begin l1)).push (q.begin l2)).push { cls := .type "tuple", data := .seq #[.ref s.heap.objs.size, .ref (s.heap.push (p.begin l1)).objs.size] }).objs.size = s.heap.objs.size + 3 := by rw [Heap.size_push, s2]
  have s4 : (zN p q l1 l2 s.heap).objs.size = s.heap.objs.size + 4 := by rw [Heap.size_push, s3]
  have s5 : h5.objs.size = s.heap.objs.size + 5 := by rw [← hz, Heap.size_push, s4]
  have g5 : IsZip h5 (zN p q l1 l2 s.heap).objs.size ((s.heap.push (p.begin l1)).push (q.begin l2)).objs.size (((s.heap.push (p.begin l1)).push (q.begin l2)).push { cls := .type "tuple", data := .seq #[.ref s.heap.objs.size, .ref (s.heap.push (p.begin l1)).objs.size] }).objs.size .none := by
    rw [← hz]; exact Heap.get?_push_size _ rfl
  have g4 : h5.get? (s.heap.objs.size + 3) = some { cls := .type "tuple", data := .seq #[.none, .none] } := by
    rw [← hz, ← s3]; exact Heap.get?_push_of_some _ (Heap.get?_push_size _ rfl)
  have g3 : h5.get? (s.heap.objs.size + 2) = some { cls := .type "tuple", data := .seq #[.ref s.heap.objs.size, .ref (s.heap.push (p.begin l1)).objs.size] } := by
    rw [← hz, ← s2]; exact Heap.get?_push_of_some _ (Heap.get?_push_of_some _ (Heap.get?_push_size _ rfl))
  have g2 : h5.get? (s.heap.objs.size + 1) = some (q.begin l2) := by
    rw [← hz, ← s1]; exact Heap.get?_push_of_some _ (Heap.get?_push_of_some _ (Heap.get?_push_of_some _ (Heap.get?_push_size _ rfl)))
  have g1 : h5.get? s.heap.objs.size = some (p.begin l1) := by
    rw [← hz]; exact Heap.get?_push_of_some _ (Heap.get?_push_of_some _ (Heap.get?_push_of_some _ (Heap.get?_push_of_some _ (Heap.get?_push_size _ rfl))))
  have up : ∀ c o, s.heap.get? c = some o → h5.get? c = some o := fun c o e => by
    rw [← hz]; exact Heap.get?_push_of_some _ (Heap.get?_push_of_some _ (Heap.get?_push_of_some _ (Heap.get?_push_of_some _ (Heap.get?_push_of_some _ e))))
  rw [s2, s3, s4] at g5
  rw [s1] at g3
  rw [s4]
  exact ⟨⟨_, g5, rfl⟩, h _ ⟨g5, g3, g4⟩ (Sk.it_new g1) (Sk.it_new g2) s5 up⟩
end
/-- what zip walks: pairs of what stands at the i-th places -/
def ItS (p q : Sk) (K : PySem.W.Frag) (a b : Addr) : L2.It where
  go i H := ∃ (xs ys : List V) (x y : V), p.at_ K H a xs ∧ q.at_ K H b ys ∧ xs[i]? = some x ∧ ys[i]? = some y
  yld i H v H' := ∃ T x y, v = .ref T ∧ H T = none ∧ H' = upd H T (.tup [x, y]) ∧ (∀ xs, p.at_ K H a xs → xs[i]? = some x) ∧ ∀ ys, q.at_ K H b ys → ys[i]? = some y
  stop i H := ∃ xs ys : List V, p.at_ K H a xs ∧ q.at_ K H b ys ∧ (xs[i]? = none ∨ ys[i]? = none)
theorem Sk.reads {X : Cx} {pins : List (Addr × Obj)} {σ : L2.St} {H : Hp} {s : Shared} (I : Inv X pins σ H s) {p : Sk} {a : Addr} {xs : List V} (h : p.at_ X.K H a xs) : ∃ its, Vals xs its ∧ p.sq s.heap a its.toArray := by
  cases p with
  | l => obtain ⟨its, rv, y, _⟩ := I.list h; exact ⟨its, rv, y.isList⟩
  | t => obtain ⟨its, rv, y, _⟩ := I.tuple h; exact ⟨its, rv, y⟩
theorem Sk.one {X : Cx} {pins : List (Addr × Obj)} {σ : L2.St} {H : Hp} {s : Shared} (I : Inv X pins σ H s) {p : Sk} {a : Addr} {xs ys : List V} (h : p.at_ X.K H a xs) (k : p.at_ X.K H a ys) : xs = ys := by
  cases p with
  | l => exact I.list_inj h k
  | t => exact I.tuple_inj h k
theorem none_of {xs : List V} {its : List Value} (r : Vals xs its) {i : Nat} : its.toArray[i]? = none ↔ xs[i]? = none := by
  have := r.length
  simp; omega
theorem turn_zs {P : Program} {w : World} {K : PySem.W.Frag} {elts : List Expr} {kk : Nat} {tpos : Pos} {p q : Sk} {a b z TI TO i1 i2 : Addr} (D : ZipApart z TI TO i1 i2 a b) :
    Turn P w K (.Tuple elts kk tpos) (ItS p q K a b) [z, TI, TO, i1, i2] z (fun i h => (∃ x y, Zp h z TI TO i1 i2 .none x y) ∧ p.it h i1 a i ∧ q.it h i2 b i) where
  mem := by simp
  obj := fun i h ⟨⟨x, y, Z⟩, h1, h2⟩ c hc => by
    simp only [List.mem_cons, List.not_mem_nil, or_false] at hc
    rcases hc with rfl | rfl | rfl | rfl | rfl
    · exact ⟨_, Z.z, fun v q => nomatch q⟩
    · exact ⟨_, Z.ti, fun v q => nomatch q⟩
    · exact ⟨_, Z.to, fun v q => nomatch q⟩
    · exact Sk.it_obj h1
    · exact Sk.it_obj h2
  keep := fun i h h' ⟨⟨x, y, Z⟩, h1, h2⟩ k =>
    ⟨⟨x, y, k z (by simp) _ Z.z, k TI (by simp) _ Z.ti, k TO (by simp) _ Z.to⟩, Sk.it_at h1 fun o => k i1 (by simp) o, Sk.it_at h2 fun o => k i2 (by simp) o⟩
  item := by
    intro X hP hw hK hc i pins s σ H E I hf ⟨⟨x0, y0, Z⟩, h1, h2⟩ ⟨xs, ys, x, y, hqx, hqy, hx, hy⟩
    subst hP hw hK
    obtain ⟨its, rv, s1⟩ := Sk.reads I hqx
    obtain ⟨its2, rv2, s2⟩ := Sk.reads I hqy
    obtain ⟨u, hu, ru⟩ := rv.get hx
    obtain ⟨u2, hu2, ru2⟩ := rv2.get hy
    have hzl : z < s.heap.objs.size := Heap.lt_size Z.z
    have no : ¬ (its.toArray[i]? = none ∨ its2.toArray[i]? = none) := by
      rw [none_of rv, none_of rv2, hx, hy]
      simp
    refine zs_py (fun e => absurd e no) D Z h1 h2 s1 s2 (fun v1 v2 e1 e2 h' z' TO' h1' h2' hT hsz hk => ?_) (fun e => absurd e no)
    have ev1 : v1 = u := by rw [List.getElem?_toArray, hu] at e1; exact (Option.some.inj e1).symm
    have ev2 : v2 = u2 := by rw [List.getElem?_toArray, hu2] at e2; exact (Option.some.inj e2).symm
    subst ev1 ev2
    refine ⟨_, rfl, wpAny_letOwnedTupleGo_zip (s := { s with heap := h' }) z' fun h'' z'' sb => ?_⟩
    have up : ∀ c o, c ≠ z → h'.get? c = some o → h''.get? c = some o := fun c o n e => (sb.2 c n).trans e
    have new : ObjOk X.prog X.w (upd H s.heap.objs.size (.tup [x, y])) h'' s.heap.objs.size (.tup [x, y]) :=
      ⟨by show 2 ≤ sizeLine; decide, [v1, v2], .cons ru (.cons ru2 .nil), ⟨_, up _ _ (Nat.ne_of_gt hzl) hT, rfl, _, rfl⟩⟩
    have I1 : Inv X pins σ (upd H s.heap.objs.size (.tup [x, y])) { s with heap := h'' } := by
      refine I.turnedNew (t' := s.toks) (ch := [z, TI, TO, i1, i2]) (fun c o hb q => ?_) hf (Nat.le_refl _) new
      simp only [List.mem_cons, List.not_mem_nil, or_false, not_or] at hb
      exact up _ _ hb.1 (hk c o hb.1 hb.2.2.1 hb.2.2.2.1 hb.2.2.2.2 q)
    refine ⟨.ref s.heap.objs.size, _, I1, rfl, ⟨_, x, y, rfl, I.hok.fresh (Nat.le_refl _), rfl, fun l hl => by rw [Sk.one I hl hqx]; exact hx, fun l hl => by rw [Sk.one I hl hqy]; exact hy⟩,
      ⟨⟨_, _, z'', up _ _ D.TIz (hk _ _ D.TIz D.TITO D.TIi1 D.TIi2 Z.ti), up _ _ D.TOz TO'⟩, Sk.it_at h1' fun o => up _ o D.i1z, Sk.it_at h2' fun o => up _ o D.i2z⟩, fun c hcm => ?_⟩
    have hlt : c < s.heap.objs.size := by
      simp only [List.mem_cons, List.not_mem_nil, or_false] at hcm
      rcases hcm with rfl | rfl | rfl | rfl | rfl
      · exact hzl
      · exact Heap.lt_size Z.ti
      · exact Heap.lt_size Z.to
      · exact Sk.it_lt h1
      · exact Sk.it_lt h2
    rw [upd_ne (Nat.ne_of_lt hlt)]
    exact (hf c hcm).1
  done := by
    intro X hP hw hK hc i pins s σ H E I hf ⟨⟨x0, y0, Z⟩, h1, h2⟩ ⟨xs, ys, hqx, hqy, hend⟩
    subst hP hw hK
    obtain ⟨its, rv, s1⟩ := Sk.reads I hqx
    obtain ⟨its2, rv2, s2⟩ := Sk.reads I hqy
    have he : its.toArray[i]? = none ∨ its2.toArray[i]? = none := by rwa [none_of rv, none_of rv2]
    refine zs_py (fun _ => I.ok.hd hc) D Z h1 h2 s1 s2 (fun v1 v2 e1 e2 => ?_) (fun _ h' hk => ?_)
    · rcases he with e | e
      · rw [e] at e1; cases e1
      · rw [e] at e2; cases e2
    · refine ⟨rfl, I.turnedL (t' := s.toks) (ch := [z, TI, TO, i1, i2]) (fun c o hb q => ?_) hf⟩
      simp only [List.mem_cons, List.not_mem_nil, or_false, not_or] at hb
      exact hk c o hb.1 hb.2.2.1 hb.2.2.2.1 hb.2.2.2.2 q
  self := fun A i s Q E st h => by
    obtain ⟨⟨_, _, Z⟩, _⟩ := st
    exact wpAny_pyIter_zip Z.z h
def iZs (K : PySem.W.Frag) (ta : TA) : TI := fun σ H R => ta σ H fun vs H1 => ∃ (p q : Sk) (a b : Addr) (xs ys : List V), vs = [.ref a, .ref b] ∧ p.at_ K H1 a xs ∧ q.at_ K H1 b ys ∧ R (ItS p q K a b) H1
theorem pi_zs {X : Cx} {e e2 : Expr} {ta : TA} {ps pos tpos : Pos} {elts : List Expr} {kk : Nat} (hg : Gl X "zip") (hm : X.mg "zip" = none) (ha : PA X [e, e2] ta)
    (hs : starEach [e, e2] X.env = (false, eval e X.env) :: starEach [e2] X.env := by rfl) (hpl : (backTo pos (starEach [e2] X.env)).any (·.1) = false := by rfl) :
    PI X (.Tuple elts kk tpos) (.Call (.Name "zip" ps) [e, e2] [] pos) (iZs X.K ta) := by
  refine ⟨fun pins s σ H R I h => ?_⟩
  refine Call_ (ld_blt I hg hm PyProof.Rows.boot_zip (PyProof.Rows.callWith_type1 (thn (ha.run pos pins s σ H _ I h) fun us s1 ⟨vs, H1, I1, r1, q1⟩ => ?_) hs hpl))
  obtain ⟨p, q, a, b, xs, ys, ex, hqx, hqy, hR⟩ := q1
  subst ex
  obtain ⟨u1, u2, rfl, r, r'⟩ : ∃ u1 u2, us = [u1, u2] ∧ RelV (.ref a) u1 ∧ RelV (.ref b) u2 := by
    cases r1 with
    | cons r rr => cases rr with | cons r' rr => cases rr; exact ⟨_, _, rfl, r, r'⟩
  cases r
  cases r'
  obtain ⟨its, rv, p1⟩ := Sk.reads I1 hqx
  obtain ⟨its2, rv2, p2⟩ := Sk.reads I1 hqy
  refine zs_call p1 p2 fun h' Z h1 h2 hsz hk => wpAny_pyIter_zip Z.z ?_
  have I2 : Inv X pins σ H1 { s1 with heap := h' } := I1.kept (t' := s1.toks) hk
  refine ⟨s1.heap.objs.size + 4, [s1.heap.objs.size + 4, s1.heap.objs.size + 2, s1.heap.objs.size + 3, s1.heap.objs.size, s1.heap.objs.size + 1], _, _, H1, rfl, I2, turn_zs (PySem.W.ktu_apart s1.heap.objs.size a b (Sk.sq_lt p1) (Sk.sq_lt p2)), ⟨⟨_, _, Z⟩, h1, h2⟩, fun c hcm => ?_, hR⟩
  have hle : s1.heap.objs.size ≤ c := by
    simp only [List.mem_cons, List.not_mem_nil, or_false] at hcm
    rcases hcm with rfl | rfl | rfl | rfl | rfl
    all_goals first | exact Nat.le_refl _ | exact Nat.le_add_right _ _
  exact I1.fpOk hle (I1.hok.fresh hle)
end Mi

namespace Mi
open PySem L2 PySem.Spec PyProof.Rows RZ

/-- from a fixed ground -/
theorem Want.bind0 {α γ τ ρ : Type} {N : Nm} {R : Bt → Hp → α → τ → Prop} {R' : Bt → Hp → γ → ρ → Prop} {β β0 : Bt} {H H0 : Hp} {o : Out α} {f : α → Sto → Out γ} {Q : ρ → Hp → Prop} {Q1 : τ → Hp → Prop} (w : Want N R' β0 H0 (o.bind f) Q)
    (h : ∀ a S1, o = .ok a S1 → ∀ β1 H1 t, Nxt β H β1 H1 → Sim N β1 S1 H1 → R β1 H1 a t → Want N R' β0 H0 (f a S1) Q → Q1 t H1) : Want N R β H o Q1 := by
  cases o with
  | ok a S => exact fun b h' t n s r => h a S rfl b h' t n s r w
  | exc c fs S => exact w
  | no => exact w

/-! ### what is walked -/
def ItR (N : Nm) (β0 : Bt) (H0 : Hp) (J : It) (JH : L2.It) : Prop := ∀ (β : Bt) (S : Sto) (H : Hp) (i : Nat), Nxt β0 H0 β H → Sim N β S H →
  (itNext J i S = some none → JH.stop i H) ∧ ∀ d, itNext J i S = some (some d) → JH.go i H ∧ ∀ x H', JH.yld i H x H' → Nxt β H β H' ∧ Sim N β S H' ∧ VR N.K β H' d x
abbrev RI (N : Nm) : Bt → Hp → It → L2.It → Prop := ItR N
theorem ItR.nxt {N : Nm} {β β' : Bt} {H H' : Hp} {J : It} {JH : L2.It} (h : ItR N β H J JH) (x : Nxt β H β' H') : ItR N β' H' J JH := fun b S h' i n => h b S h' i (x.trans n)
def tI (N : Nm) (Y : Fs) (it : I) : TI := fun σ H R => ∃ β env S, Sim N β S H ∧ EnvR N.K β H env σ ∧ Want N (RI N) β H (evI Y it env S) R

section
variable {N : Nm} {β : Bt} {S : Sto} {H : Hp}
theorem itl_rel {d : D} {a : Addr} (h : VR N.K β H d (.ref a)) (sm : Sim N β S H) (hs : ∃ xs, seqAt S d = some xs) : ItR N β H (.seq d) (Itl N.K a) := fun β' S' H' i x sm' => by
  have r := h.nxt sm x
  have key : ∀ {xs : List D}, seqAt S' d = some xs → ∃ vs, SqL N.K H' a vs ∧ VRs N.K β' H' xs vs := fun {xs} e => by
    obtain ⟨a', vs, e1, h1, h2⟩ := sm'.seq r e
    cases e1
    exact ⟨vs, h1, h2⟩
  refine ⟨fun e => ?_, fun y e => ?_⟩
  · obtain ⟨xs, e1, e2⟩ := Option.map_eq_some_iff.mp (show (seqAt S' d).map (fun xs => xs[i]?) = some none from e)
    obtain ⟨vs, h1, h2⟩ := key e1
    exact ⟨vs, h1, List.getElem?_eq_none_iff.mp (h2.getNone e2)⟩
  · obtain ⟨xs, e1, e2⟩ := Option.map_eq_some_iff.mp (show (seqAt S' d).map (fun xs => xs[i]?) = some (some y) from e)
    obtain ⟨vs, h1, h2⟩ := key e1
    obtain ⟨v, e3, r3⟩ := h2.get e2
    refine ⟨⟨vs, v, h1, e3⟩, fun z H2 ⟨eh, hz⟩ => ?_⟩
    subst eh
    have := hz vs h1
    rw [e3] at this; cases this
    exact ⟨.refl _ _, sm', r3⟩
theorem itt_rel {xs : List D} {vs : List V} {a : Addr} (h : SqT N.K H a vs) (r : VRs N.K β H xs vs) (sm : Sim N β S H) : ItR N β H (.tup xs) (Itt N.K a) := fun β' S' H' i x sm' => by
  have h' : SqT N.K H' a vs := (x.sub sm).tup _ _ h
  have r' := r.nxt sm x
  refine ⟨fun e => ?_, fun y e => ?_⟩
  · have e : xs[i]? = none := Option.some.inj e
    exact ⟨vs, h', List.getElem?_eq_none_iff.mp (r'.getNone e)⟩
  · have e : xs[i]? = some y := Option.some.inj e
    obtain ⟨v, e3, r3⟩ := r'.get e
    refine ⟨⟨vs, v, h', e3⟩, fun z H2 ⟨eh, hz⟩ => ?_⟩
    subst eh
    have := hz vs h'
    rw [e3] at this; cases this
    exact ⟨.refl _ _, sm', r3⟩
theorem itr_rel {lo : Int} {k : Nat} : ItR N β H (.rng lo k) (Itr lo k) := fun β' S' H' i x sm' => by
  refine ⟨fun e => ?_, fun y e => ?_⟩
  · have e : (if i < k then some (D.int (lo + i)) else none) = none := Option.some.inj e
    split at e
    · cases e
    · rename_i h
      exact Nat.le_of_not_lt h
  · have e : (if i < k then some (D.int (lo + i)) else none) = some y := Option.some.inj e
    split at e
    · rename_i h
      cases e
      refine ⟨h, fun z H2 ⟨e1, e2⟩ => ?_⟩
      subst e1 e2
      exact ⟨.refl _ _, sm', .int _⟩
    · cases e
theorem its_rel {z : Str} : ItR N β H (.chars z) (Its z) := fun β' S' H' i x sm' => by
  refine ⟨fun e => ?_, fun y e => ?_⟩
  · have e : z.cps[i]?.map (fun c => D.str ⟨#[c]⟩) = none := Option.some.inj e
    have e : z.cps[i]? = none := Option.map_eq_none_iff.mp e
    exact Array.getElem?_eq_none_iff.mp e
  · have e : z.cps[i]?.map (fun c => D.str ⟨#[c]⟩) = some y := Option.some.inj e
    obtain ⟨c, e1, e2⟩ := Option.map_eq_some_iff.mp e
    subst e2
    refine ⟨(Array.getElem?_eq_some_iff.mp e1).1, fun v H2 ⟨eh, c', e3, e4⟩ => ?_⟩
    subst eh e4
    rw [e1] at e3; cases e3
    exact ⟨.refl _ _, sm', .str _⟩
theorem ite_rel {d : D} {a : Addr} (h : VR N.K β H d (.ref a)) (sm : Sim N β S H) : ItR N β H (.enu d) (Ite N.K a) := fun β' S' H' i x sm' => by
  have r := h.nxt sm x
  have key : ∀ {xs : List D}, seqAt S' d = some xs → ∃ vs, SqL N.K H' a vs ∧ VRs N.K β' H' xs vs := fun {xs} e => by
    obtain ⟨a', vs, e1, h1, h2⟩ := sm'.seq r e
    cases e1
    exact ⟨vs, h1, h2⟩
  refine ⟨fun e => ?_, fun y e => ?_⟩
  · obtain ⟨xs, e1, e2⟩ := Option.map_eq_some_iff.mp (show (seqAt S' d).map (fun xs => xs[i]?.map fun d => D.tup [.int i, d]) = some none from e)
    obtain ⟨vs, h1, h2⟩ := key e1
    exact ⟨vs, h1, List.getElem?_eq_none_iff.mp (h2.getNone (Option.map_eq_none_iff.mp e2))⟩
  · obtain ⟨xs, e1, e2⟩ := Option.map_eq_some_iff.mp (show (seqAt S' d).map (fun xs => xs[i]?.map fun d => D.tup [.int i, d]) = some (some y) from e)
    obtain ⟨z, e4, e5⟩ := Option.map_eq_some_iff.mp e2
    subst e5
    obtain ⟨vs, h1, h2⟩ := key e1
    obtain ⟨v, e3, r3⟩ := h2.get e4
    refine ⟨⟨vs, v, h1, e3⟩, fun z H2 ⟨T, w, ez, hT, eh, hz⟩ => ?_⟩
    subst ez eh
    have := hz vs h1
    rw [e3] at this; cases this
    exact ⟨.lay hT, sm'.lay hT, .tup (SqT.of upd_same) (.cons (.int _) (.cons (r3.nxt sm' (.lay hT)) .nil))⟩
def kindD : D → Sk
  | .tup _ => .t
  | _ => .l
theorem Sim.sq (sm : Sim N β S H) {d : D} {v : V} {xs : List D} (r : VR N.K β H d v) (e : sqAt S d = some xs) : ∃ a vs, v = .ref a ∧ (kindD d).at_ N.K H a vs ∧ VRs N.K β H xs vs := by
  have list : seqAt S d = some xs → kindD d = .l → ∃ a vs, v = .ref a ∧ (kindD d).at_ N.K H a vs ∧ VRs N.K β H xs vs := fun e k => by
    obtain ⟨a, vs, e1, h1, h2⟩ := sm.seq r e
    exact ⟨a, vs, e1, by rw [k]; exact h1, h2⟩
  cases d with
  | tup ys =>
    cases e
    cases r with
    | tup h1 h2 => exact ⟨_, _, rfl, h1, h2⟩
  | non => exact list e rfl
  | bl b => exact list e rfl
  | int b => exact list e rfl
  | str b => exact list e rfl
  | rol b => exact list e rfl
  | ref b => exact list e rfl
theorem itz_rel {d e : D} {a b : Addr} (h : VR N.K β H d (.ref a)) (k : VR N.K β H e (.ref b)) : ∀ (sm : Sim N β S H), ItR N β H (.zip d e) (ItS (kindD d) (kindD e) N.K a b) := fun sm β' S' H' i x sm' => by
  have r := h.nxt sm x
  have r2 := k.nxt sm x
  have key : ∀ {d : D} {a : Addr} {xs : List D}, VR N.K β' H' d (.ref a) → sqAt S' d = some xs → ∃ vs, (kindD d).at_ N.K H' a vs ∧ VRs N.K β' H' xs vs := fun {d a xs} r e => by
    obtain ⟨a', vs, e1, h1, h2⟩ := sm'.sq r e
    cases e1
    exact ⟨vs, h1, h2⟩
  refine ⟨fun q => ?_, fun y q => ?_⟩
  · have q : (match sqAt S' d, sqAt S' e with
      | some xs, some ys => match xs[i]?, ys[i]? with
        | some a, some b => some (some (D.tup [a, b]))
        | _, _ => some none
      | _, _ => none) = some none := q
    split at q
    · rename_i xs ys e1 e2
      obtain ⟨vs, h1, h2⟩ := key r e1
      obtain ⟨ws, h3, h4⟩ := key r2 e2
      refine ⟨vs, ws, h1, h3, ?_⟩
      split at q
      · cases q
      · rename_i hn
        cases e3 : xs[i]? with
        | none => exact .inl (h2.getNone e3)
        | some u =>
          cases e4 : ys[i]? with
          | none => exact .inr (h4.getNone e4)
          | some u2 => exact absurd e4 (hn u u2 e3)
    · cases q
  · have q : (match sqAt S' d, sqAt S' e with
      | some xs, some ys => match xs[i]?, ys[i]? with
        | some a, some b => some (some (D.tup [a, b]))
        | _, _ => some none
      | _, _ => none) = some (some y) := q
    split at q
    · rename_i xs ys e1 e2
      obtain ⟨vs, h1, h2⟩ := key r e1
      obtain ⟨ws, h3, h4⟩ := key r2 e2
      split at q
      · rename_i u u2 e3 e4
        cases q
        obtain ⟨v, e5, r5⟩ := h2.get e3
        obtain ⟨w, e6, r6⟩ := h4.get e4
        refine ⟨⟨vs, ws, v, w, h1, h3, e5, e6⟩, fun z H2 ⟨T, v', w', ez, hT, eh, hz, hz2⟩ => ?_⟩
        subst ez eh
        have h5 := hz vs h1
        rw [e5] at h5; cases h5
        have h6 := hz2 ws h3
        rw [e6] at h6; cases h6
        exact ⟨.lay hT, sm'.lay hT, .tup (SqT.of upd_same) (.cons (r5.nxt sm' (.lay hT)) (.cons (r6.nxt sm' (.lay hT)) .nil))⟩
      · cases q
    · cases q
end

section
variable {X : Cx} {N : Nm} {Y : Fs} {ea eb tg : PySem.Expr} {a b : E} {pos : Pos}
/-- any of a list, a tuple, a text -/
def iAny (K : PySem.W.Frag) (te : TE) : TI := fun σ H R => te σ H fun x H1 => (∃ a, x = .ref a ∧ (∃ xs, SqL K H1 a xs) ∧ R (Itl K a) H1) ∨ (∃ a, x = .ref a ∧ (∃ xs, SqT K H1 a xs) ∧ R (Itt K a) H1) ∨ ∃ z, x = .str z ∧ R (Its z) H1
theorem pi_any {te : TE} (h : PE X ea te) : PI X tg ea (iAny X.K te) := by
  refine ⟨fun pins s σ H R I hw => ?_⟩
  refine thn (h.run pins s σ H _ I hw) fun v s1 ⟨x, H1, I1, r1, q1⟩ => ?_
  rcases q1 with ⟨a, e, ⟨xs, hq⟩, q⟩ | ⟨a, e, ⟨xs, hq⟩, q⟩ | ⟨z, e, q⟩
  · subst e
    cases r1
    obtain ⟨its, rv, p, hz⟩ := I1.list hq
    refine wpAny_pyIter_list p.isList ?_
    refine ⟨s1.heap.objs.size, [s1.heap.objs.size], _, _, H1, rfl, I1.kept (t' := s1.toks) fun b o e => Heap.get?_push_of_some _ e, turn_list a _, ⟨_, Heap.get?_push_size _ rfl, rfl, rfl⟩, fun b hb => ?_, q⟩
    have e : b = s1.heap.objs.size := by simpa using hb
    subst e
    exact I1.fpOk (Nat.le_refl _) (I1.hok.fresh (Nat.le_refl _))
  · subst e
    cases r1
    obtain ⟨its, rv, p, hz⟩ := I1.tuple hq
    refine wpAny_pyIter_tuple (show s1.heap.IsTuple a its.toArray from p) ?_
    refine ⟨s1.heap.objs.size, [s1.heap.objs.size], _, _, H1, rfl, I1.kept (t' := s1.toks) fun b o e => Heap.get?_push_of_some _ e, turn_tuple a _, ⟨_, Heap.get?_push_size _ rfl, rfl, rfl⟩, fun b hb => ?_, q⟩
    have e : b = s1.heap.objs.size := by simpa using hb
    subst e
    exact I1.fpOk (Nat.le_refl _) (I1.hok.fresh (Nat.le_refl _))
  · subst e
    obtain ⟨t, rfl⟩ := r1
    cases ha : z.cps.all (· < 128)
    · exact wpAny_pyIter_wide ha (pi_one (tk := s1.toks) I1 _ (turn_str _ z t "str_iterator" (.inr rfl)) ⟨_, Heap.get?_push_size _ rfl, rfl, rfl⟩ q)
    · exact wpAny_pyIter_ascii ha (pi_one (tk := s1.toks) I1 _ (turn_str _ z t "str_ascii_iterator" (.inl rfl)) ⟨_, Heap.get?_push_size _ rfl, rfl, rfl⟩ q)
end
end Mi

namespace Mi
open PySem L2 PySem.Spec PyProof.Rows RZ

section
variable {X : Cx} {N : Nm} {Y : Fs} {ea eb tg : PySem.Expr} {a b : E} {pos p : Pos}
theorem i_val (hK : X.K = N.K) (h : PE X ea (tE N Y a)) : PI X tg ea (tI N Y (.val a)) := by
  have q := pi_any (tg := tg) h
  rw [hK] at q
  refine ⟨fun pins s σ H R I hw => q.run pins s σ H R I ?_⟩
  obtain ⟨β, env, S, sm, er, w⟩ := hw
  refine tE_bind (R' := RI N) sm er w fun d S1 β1 H1 v x1 sm1 er1 r1 w1 => ?_
  split at w1
  · cases r1 with
    | tup h1 h2 => exact .inr (.inl ⟨_, rfl, ⟨_, h1⟩, w1.here sm1 (itt_rel h1 h2 sm1)⟩)
  · cases r1
    exact .inr (.inr ⟨_, rfl, w1.here sm1 its_rel⟩)
  · split at w1
    · rename_i xs hx
      obtain ⟨a, vs, rfl, h1, h2⟩ := sm1.seq r1 hx
      exact .inl ⟨a, rfl, ⟨vs, h1⟩, w1.here sm1 (itl_rel r1 sm1 ⟨_, hx⟩)⟩
    · exact w1.elim
theorem i_rng1 (hg : Gl X "range") (hm : X.mg "range" = none) (hs : starEach [ea] X.env = [(false, eval ea X.env)]) (h : PE X ea (tE N Y a)) : PI X tg (.Call (.Name "range" p) [ea] [] pos) (tI N Y (.rng1 a)) := by
  refine ⟨fun pins s σ H R I hw => (pi_range1 hg hm (pa_cons h pa_nil hs) hs).run pins s σ H R I ?_⟩
  obtain ⟨β, env, S, sm, er, w⟩ := hw
  refine tE_bind (R' := RI N) sm er w fun d S1 β1 H1 v x1 sm1 er1 r1 w1 => ?_
  split at w1
  · split at w1
    · rename_i hl
      cases r1
      exact ⟨_, rfl, hl.1, hl.2, w1.here sm1 itr_rel⟩
    · exact w1.elim
  · exact w1.elim
theorem i_rng2 (hg : Gl X "range") (hm : X.mg "range" = none) (hs : starEach [ea, eb] X.env = [(false, eval ea X.env), (false, eval eb X.env)]) (hs2 : starEach [eb] X.env = [(false, eval eb X.env)]) (h : PE X ea (tE N Y a)) (h2 : PE X eb (tE N Y b)) : PI X tg (.Call (.Name "range" p) [ea, eb] [] pos) (tI N Y (.rng2 a b)) := by
  refine ⟨fun pins s σ H R I hw => (pi_range2 hg hm (pa_cons h (pa_cons h2 pa_nil hs2) (by rw [hs, hs2])) hs hs2).run pins s σ H R I ?_⟩
  obtain ⟨β, env, S, sm, er, w⟩ := hw
  refine tE_bind (R' := RI N) sm er w fun d S1 β1 H1 v x1 sm1 er1 r1 w1 => ?_
  refine tE_bind (R' := RI N) sm1 er1 w1 fun d2 S2 β2 H2 v2 x2 sm2 er2 r2 w2 => ?_
  split at w2
  · split at w2
    · rename_i hl
      cases r1; cases r2
      exact ⟨_, _, rfl, hl, w2.here sm2 itr_rel⟩
    · exact w2.elim
  · exact w2.elim
theorem i_enu (hK : X.K = N.K) {elts : List PySem.Expr} {kk : Nat} {tpos : Pos} (hg : Gl X "enumerate") (hm : X.mg "enumerate" = none) (hs : starEach [ea] X.env = [(false, eval ea X.env)]) (h : PE X ea (tE N Y a)) : PI X (.Tuple elts kk tpos) (.Call (.Name "enumerate" p) [ea] [] pos) (tI N Y (.enu a)) := by
  have q := pi_enum (X := X) (p := p) (pos := pos) (tpos := tpos) (elts := elts) (kk := kk) hg hm (pa_cons h pa_nil hs) hs
  rw [hK] at q
  refine ⟨fun pins s σ H R I hw => q.run pins s σ H R I ?_⟩
  obtain ⟨β, env, S, sm, er, w⟩ := hw
  refine tE_bind (R' := RI N) sm er w fun d S1 β1 H1 v x1 sm1 er1 r1 w1 => ?_
  split at w1
  · rename_i xs hx
    obtain ⟨a, vs, rfl, h1, h2⟩ := sm1.seq r1 hx
    exact ⟨a, vs, rfl, h1, w1.here sm1 (ite_rel r1 sm1)⟩
  · exact w1.elim
theorem i_zip (hK : X.K = N.K) {elts : List PySem.Expr} {kk : Nat} {tpos : Pos} (hg : Gl X "zip") (hm : X.mg "zip" = none) (hs : starEach [ea, eb] X.env = (false, eval ea X.env) :: starEach [eb] X.env) (hs2 : starEach [eb] X.env = [(false, eval eb X.env)]) (h : PE X ea (tE N Y a)) (h2 : PE X eb (tE N Y b)) :
    PI X (.Tuple elts kk tpos) (.Call (.Name "zip" p) [ea, eb] [] pos) (tI N Y (.zip a b)) := by
  have q := pi_zs (X := X) (ps := p) (pos := pos) (tpos := tpos) (elts := elts) (kk := kk) hg hm (pa_cons h (pa_cons h2 pa_nil hs2) hs) hs (by rw [hs2]; rfl)
  rw [hK] at q
  refine ⟨fun pins s σ H R I hw => q.run pins s σ H R I ?_⟩
  obtain ⟨β, env, S, sm, er, w⟩ := hw
  refine tE_bind (R' := RI N) sm er w fun d S1 β1 H1 v x1 sm1 er1 r1 w1 => ?_
  refine tE_bind (R' := RI N) sm1 er1 w1 fun d2 S2 β2 H2 v2 x2 sm2 er2 r2 w2 => ?_
  have r1' := r1.nxt sm1 x2
  split at w2
  · rename_i e1 e2
    obtain ⟨a, vs, rfl, h1, h2⟩ := sm2.sq r1' e1
    obtain ⟨b, ws, rfl, h3, h4⟩ := sm2.sq r2 e2
    exact ⟨_, _, a, b, vs, ws, rfl, h1, h3, w2.here sm2 (itz_rel r1' r2 sm2)⟩
  · exact w2.elim
end

/-! ### targets -/
def setS : List Nat → List V → List (Option V) → Option (List (Option V))
  | [], [], σ => some σ
  | i :: is, v :: vs, σ => setS is vs (σ.set i (some v))
  | _, _, _ => none
def gT (K : PySem.W.Frag) (tg : Tg) : TG := fun v σ H Q => match tg with
  | .nm i => Q (σ.set i (some v)) H
  | .tup is => ∃ a vs σ', v = .ref a ∧ (SqT K H a vs ∨ SqL K H a vs) ∧ setS is vs σ = some σ' ∧ Q σ' H
/-- what a target leaves -/
def SetBy (tg : Tg) (v : V) (σ σ' : List (Option V)) : Prop := match tg with
  | .nm i => σ' = σ.set i (some v)
  | .tup is => ∃ vs, setS is vs σ = some σ'
def gNs (is : List Nat) : TGs := fun vs σ H Q => ∃ σ', setS is vs σ = some σ' ∧ Q σ' H
theorem setS_len : ∀ {is : List Nat} {vs : List V} {σ σ' : List (Option V)}, setS is vs σ = some σ' → vs.length = is.length
  | [], [], _, _, _ => rfl
  | i :: is, v :: vs, σ, σ', h => by
    have := setS_len (is := is) (vs := vs) h
    simp [this]
  | [], _ :: _, _, _, h => by cases h
  | _ :: _, [], _, _, h => by cases h
theorem g_nm {X : Cx} {i : Nat} {x : Str} {pos : Pos} (hN : X.N.Nodup) (hi : X.N[i]? = some x) (hx : Loc X.env.scope x) (hf : X.fn x = true ∨ X.env.scope.names.lookup x = some .local) : PG X (.Name x pos) (gT X.K (.nm i)) := pg_name hN hi hx hf
theorem gn_nil {X : Cx} : PGs X [] (gNs []) :=
  ⟨fun pins s σ H vs us Q I r h => by
    obtain ⟨σ', e, q⟩ := h
    cases vs with
    | nil =>
      cases e
      exact pgs_nil.run pins s σ H [] us Q I r ⟨rfl, q⟩
    | cons v vs => cases e⟩
theorem gn_cons {X : Cx} {i : Nat} {is : List Nat} {x : Str} {pos : Pos} {es : List PySem.Expr} (hN : X.N.Nodup) (hi : X.N[i]? = some x) (hx : Loc X.env.scope x) (hf : X.fn x = true ∨ X.env.scope.names.lookup x = some .local) (hr : PGs X es (gNs is))
    (hs : (assignEach (.Name x pos :: es) X.env).map (·.2) = assign (.Name x pos) X.env :: (assignEach es X.env).map (·.2)) : PGs X (.Name x pos :: es) (gNs (i :: is)) :=
  ⟨fun pins s σ H vs us Q I r h => by
    obtain ⟨σ', e, q⟩ := h
    cases vs with
    | nil => cases e
    | cons v vs => exact (pgs_cons (pg_name hN hi hx hf) hr hs).run pins s σ H (v :: vs) us Q I r ⟨v, vs, rfl, σ', e, q⟩⟩
theorem g_tup {X : Cx} {is : List Nat} {es : List PySem.Expr} {k : Nat} {pos : Pos} (hc : X.calm = true) (h : PGs X es (gNs is)) (hn : (assignEach es X.env).length = is.length) (hst : (assignEach es X.env).findIdx? (·.1) = none) : PG X (.Tuple es k pos) (gT X.K (.tup is)) :=
  ⟨fun pins s σ H v u Q I r hw => by
    obtain ⟨a, vs, σ', e, hq, hs, q⟩ := hw
    rcases hq with hq | hq
    · exact (pg_tup hc h hn hst).run pins s σ H v u Q I r ⟨a, vs, e, hq, setS_len hs, σ', hs, q⟩
    · exact (pg_lst hc h hn hst).run pins s σ H v u Q I r ⟨a, vs, e, hq, setS_len hs, σ', hs, q⟩⟩
section
variable {N : Nm} {β : Bt} {H : Hp}
theorem setAll_rel : ∀ {is : List Nat} {ds : List D} {vs : List V} {env env' : Env} {σ : List (Option V)}, EnvR N.K β H env σ → VRs N.K β H ds vs → setAll is ds env = some env' → ∃ σ', setS is vs σ = some σ' ∧ EnvR N.K β H env' σ'
  | [], [], _, _, _, _, er, r, h => by
    cases r; cases h
    exact ⟨_, rfl, er⟩
  | i :: is, d :: ds, _, _, _, _, er, r, h => by
    cases r with
    | cons a b => exact setAll_rel (is := is) (er.set a) b h
  | [], _ :: _, _, _, _, _, _, _, h => by cases h
  | _ :: _, [], _, _, _, _, _, _, h => by cases h
theorem asg_rel {tg : Tg} {d : D} {v : V} {env env' : Env} {σ : List (Option V)} (er : EnvR N.K β H env σ) (r : VR N.K β H d v) (h : asg tg d env = some env') : ∃ σ', EnvR N.K β H env' σ' ∧ (∀ Q : List (Option V) → Hp → Prop, Q σ' H → gT N.K tg v σ H Q) ∧ SetBy tg v σ σ' := by
  unfold asg at h
  split at h
  · cases h
    exact ⟨_, er.set r, fun Q q => q, rfl⟩
  · cases r with
    | tup a b =>
      obtain ⟨σ', h1, h2⟩ := setAll_rel er b h
      exact ⟨σ', h2, fun Q q => ⟨_, _, σ', rfl, .inl a, h1, q⟩, _, h1⟩
  · cases h
theorem asgS_rel {S : Sto} (sm : Sim N β S H) {is : List Nat} {d : D} {v : V} {env env' : Env} {σ : List (Option V)} (er : EnvR N.K β H env σ) (r : VR N.K β H d v) (h : asgS S is d env = some env') : ∃ σ', EnvR N.K β H env' σ' ∧ ∀ Q : List (Option V) → Hp → Prop, Q σ' H → gT N.K (.tup is) v σ H Q := by
  unfold asgS at h
  split at h
  · rename_i xs hx
    obtain ⟨a, vs, rfl, h1, h2⟩ := sm.sq r hx
    obtain ⟨σ', h3, h4⟩ := setAll_rel er h2 h
    refine ⟨σ', h4, fun Q q => ⟨_, _, σ', rfl, ?_, h3, q⟩⟩
    cases hk : kindD d with
    | l => rw [hk] at h1; exact .inr h1
    | t => rw [hk] at h1; exact .inl h1
  · cases h
end
def Tg.slots : Tg → List Nat
  | .nm i => [i]
  | .tup is => is
theorem wipe_get (σ : List (Option V)) : ∀ (vs : List Nat) (j : Nat), (wipe σ vs)[j]? = if j ∈ vs ∧ j < σ.length then some none else σ[j]?
  | [], j => by simp [wipe]
  | v :: vs, j => by
    unfold wipe
    by_cases h : j = v
    · subst h
      by_cases hl : j < σ.length
      · rw [List.getElem?_set_self (by rw [wipe_length]; exact hl), if_pos ⟨List.mem_cons_self .., hl⟩]
      · rw [List.getElem?_eq_none (by rw [List.length_set, wipe_length]; omega), if_neg (fun z => hl z.2), List.getElem?_eq_none (by omega)]
    · rw [List.getElem?_set_ne (Ne.symm h), wipe_get σ vs j]
      have : (j ∈ v :: vs ∧ j < σ.length) ↔ (j ∈ vs ∧ j < σ.length) := by simp [h]
      by_cases q : j ∈ vs ∧ j < σ.length
      · rw [if_pos q, if_pos (this.mpr q)]
      · rw [if_neg q, if_neg (fun z => q (this.mp z))]
theorem wipe_set {σ : List (Option V)} {vs : List Nat} {i : Nat} {x : Option V} (h : i ∈ vs) : wipe (σ.set i x) vs = wipe σ vs := by
  apply List.ext_getElem?
  intro j
  rw [wipe_get, wipe_get, List.length_set]
  by_cases hj : j ∈ vs ∧ j < σ.length
  · rw [if_pos hj, if_pos hj]
  · rw [if_neg hj, if_neg hj]
    by_cases e : j = i
    · subst e
      have : ¬ j < σ.length := fun z => hj ⟨h, z⟩
      rw [List.getElem?_eq_none (by rw [List.length_set]; omega), List.getElem?_eq_none (by omega)]
    · rw [List.getElem?_set_ne (Ne.symm e)]
theorem wipe_wipe (σ : List (Option V)) (vs : List Nat) : wipe (wipe σ vs) vs = wipe σ vs := by
  apply List.ext_getElem?
  intro j
  rw [wipe_get, wipe_get, wipe_length]
  by_cases hj : j ∈ vs ∧ j < σ.length
  · rw [if_pos hj, if_pos hj]
  · rw [if_neg hj, if_neg hj]
theorem wipe_setS {vs : List Nat} : ∀ {is : List Nat} {ws : List V} {σ σ' : List (Option V)}, (∀ i ∈ is, i ∈ vs) → setS is ws σ = some σ' → wipe σ' vs = wipe σ vs
  | [], [], _, _, _, h => by cases h; rfl
  | i :: is, w :: ws, σ, σ', hi, h => by
    have := wipe_setS (vs := vs) (fun j hj => hi j (List.mem_cons_of_mem _ hj)) h
    rw [this, wipe_set (hi i (List.mem_cons_self ..))]
  | [], _ :: _, _, _, _, h => by cases h
  | _ :: _, [], _, _, _, h => by cases h
theorem wipe_asg {tg : Tg} {vs : List Nat} {v : V} {σ σ' : List (Option V)} (hs : ∀ i ∈ tg.slots, i ∈ vs) (h : SetBy tg v σ σ') : wipe σ' vs = wipe σ vs := by
  cases tg with
  | nm i =>
    have h : σ' = σ.set i (some v) := h
    rw [h]
    exact wipe_set (hs i (by simp [Tg.slots]))
  | tup is =>
    obtain ⟨ws, h⟩ := h
    exact wipe_setS hs h
theorem EnvR.wipe {N : Nm} {β : Bt} {H : Hp} {env : Env} {σ : List (Option V)} (er : EnvR N.K β H env σ) : ∀ vs : List Nat, EnvR N.K β H (wipeD env vs) (L2.wipe σ vs)
  | [] => er
  | v :: vs => (EnvR.wipe er vs).clear

/-! ### comprehensions -/
section
variable {N : Nm} {β β0 : Bt} {S : Sto} {H H0 : Hp} {D' : Addr}
theorem Nxt.adopt (x : Nxt β0 H0 β H) (s : Sim N β S H) (h0 : H0 D' = none) : Nxt β0 H0 (Mi.ins β S.length D') H where
  ext := fun n a h => by
    have h1 := x.ext n a h
    have : n ≠ S.length := Nat.ne_of_lt (s.up n a h1)
    unfold Mi.ins; rw [if_neg this]; exact h1
  fresh := fun n a h => by
    unfold Mi.ins at h
    split at h
    · cases h; exact .inr h0
    · exact x.fresh n a h
  kept := x.kept
  there := x.there
theorem Sim.adopt {o : MO} (s : Sim N β S H) (hD : ∀ n, β n ≠ some D') (q : OR N (Mi.ins β S.length D') H D' o) : Sim N (Mi.ins β S.length D') (S ++ [o]) H where
  obj := fun n o' h => by
    by_cases hn : n < S.length
    · rw [List.getElem?_append_left hn] at h
      obtain ⟨a, e, r⟩ := s.obj n o' h
      have ext : ∀ n a, β n = some a → Mi.ins β S.length D' n = some a := fun n a h => by
        have : n ≠ S.length := Nat.ne_of_lt (s.up n a h)
        unfold Mi.ins; rw [if_neg this]; exact h
      have sb : Sub N.K β H (Mi.ins β S.length D') H := ⟨ext, fun _ _ h => h, fun _ _ h => h⟩
      refine ⟨a, ext n a e, ?_⟩
      cases o' with
      | lst xs => obtain ⟨vs, e, r⟩ := r; exact ⟨vs, e, VRs.mono sb _ _ r⟩
      | dK xs => obtain ⟨vs, e, r⟩ := r; exact ⟨vs, e, Paired.imp (fun _ _ q => ⟨q.1, VR.mono sb _ _ q.2⟩) r⟩
      | dT xs => obtain ⟨vs, e, r⟩ := r; exact ⟨vs, e, Paired.imp (fun _ _ q => ⟨q.1, VR.mono sb _ _ q.2⟩) r⟩
      | ins c fs => obtain ⟨dx, vs, e, r⟩ := r; exact ⟨dx, vs, e, Paired.imp (fun _ _ q => ⟨q.1, VR.mono sb _ _ q.2⟩) r⟩
    · have hl := (List.getElem?_eq_some_iff.mp h).1
      rw [List.length_append, List.length_singleton] at hl
      have en : n = S.length := by omega
      subst en
      rw [List.getElem?_append_right (Nat.le_refl _), Nat.sub_self] at h
      cases h
      exact ⟨D', if_pos rfl, q⟩
  up := fun n a h => by
    rw [List.length_append, List.length_singleton]
    unfold Mi.ins at h
    split at h
    · omega
    · have := s.up n a h; omega
  inj := fun m n a h1 h2 => by
    unfold Mi.ins at h1 h2
    split at h1 <;> split at h2
    · omega
    · cases h1; exact absurd h2 (hD n)
    · cases h2; exact absurd h1 (hD m)
    · exact s.inj m n a h1 h2
/-- a list that is not yet ours is written -/
theorem Nxt.side (x : Nxt β0 H0 β H) (h0 : H0 D' = none) {o : HO} : Nxt β0 H0 β (upd H D' o) where
  ext := x.ext
  fresh := x.fresh
  kept := fun a u h hn => by rw [upd_ne (ne_of_none h h0)]; exact x.kept a u h hn
  there := fun a u h => by
    obtain ⟨o', q⟩ := x.there a u h
    exact ⟨o', by rw [upd_ne (ne_of_none h h0)]; exact q⟩
theorem Sub.side {vs ws : List V} (e : H D' = some (.lst vs)) : Sub N.K β H β (upd H D' (.lst ws)) where
  ext := fun _ _ h => h
  tup := fun a xs h => by
    rcases h with (h | ⟨o, h⟩) | h
    · exact .inl (.inl (by rw [upd_ne (ne_of h e (by intro z; cases z))]; exact h))
    · exact .inl (.inr ⟨o, by rw [upd_ne (ne_of h e (by intro z; cases z))]; exact h⟩)
    · exact .inr h
  rol := fun a xs h => by
    rcases h with ⟨o, h⟩ | h
    · exact .inl ⟨o, by rw [upd_ne (ne_of h e (by intro z; cases z))]; exact h⟩
    · exact .inr h
theorem Sim.side {vs ws : List V} (s : Sim N β S H) (hD : ∀ n, β n ≠ some D') (e : H D' = some (.lst vs)) : Sim N β S (upd H D' (.lst ws)) where
  obj := fun n o h => by
    obtain ⟨a, ea, r⟩ := s.obj n o h
    have na : a ≠ D' := fun z => hD n (by rw [← z]; exact ea)
    have sb : Sub N.K β H β (upd H D' (.lst ws)) := Sub.side (N := N) e
    refine ⟨a, ea, ?_⟩
    cases o with
    | lst xs => obtain ⟨vs, e, r⟩ := r; exact ⟨vs, by rw [upd_ne na]; exact e, VRs.mono sb _ _ r⟩
    | dK xs => obtain ⟨vs, e, r⟩ := r; exact ⟨vs, by rw [upd_ne na]; exact e, Paired.imp (fun _ _ q => ⟨q.1, VR.mono sb _ _ q.2⟩) r⟩
    | dT xs => obtain ⟨vs, e, r⟩ := r; exact ⟨vs, by rw [upd_ne na]; exact e, Paired.imp (fun _ _ q => ⟨q.1, VR.mono sb _ _ q.2⟩) r⟩
    | ins c fs => obtain ⟨dx, vs, e, r⟩ := r; exact ⟨dx, vs, by rw [upd_ne na]; exact e, Paired.imp (fun _ _ q => ⟨q.1, VR.mono sb _ _ q.2⟩) r⟩
  up := s.up
  inj := s.inj
theorem Nxt.nimg {β' : Bt} {H' : Hp} (x : Nxt β H β' H') (hD : ∀ n, β n ≠ some D') {u : HO} (e : H D' = some u) : ∀ n, β' n ≠ some D' := fun n h => by
  rcases x.fresh n D' h with z | z
  · exact hD n z
  · rw [e] at z; cases z
end

theorem comp_read {N : Nm} {Y : Fs} {own : List (Str × Nat)} {tg : Tg} {it : I} {fs : Es} {e : E} (hown : ∀ i ∈ tg.slots, i ∈ own.map (·.2)) (σ : List (Option V)) (H : Hp) (Q : VK) (h : tE N Y (.comp own tg it fs e) σ H Q) :
    tLc (tI N Y it) (gT N.K tg) (tIfs N Y fs) (tE N Y e) (own.map (·.2)) σ H Q := by
  obtain ⟨β, env, S, sm, er, w⟩ := h
  refine ⟨β, env, S, sm, er, Want.bind (R' := RD N) w fun J S1 _ β1 H1 JH x1 sm1 rJ w1 => fun D' hD => ?_⟩
  have nD : ∀ n, β1 n ≠ some D' := fun n z => by
    obtain ⟨u, e, _⟩ := sm1.mut z
    rw [hD] at e; cases e
  refine ⟨fun i m H => ∃ β S acc vs, Nxt β1 H1 β H ∧ Sim N β S H ∧ H D' = some (.lst vs) ∧ (∀ n, β n ≠ some D') ∧ VRs N.K β H acc vs ∧
    Want N (RD N) β1 H1 ((compN (itNext J) (asg tg) (fun e s => evIfs Y fs e s) (fun e' s => ev Y e e' s) (wipeD env (own.map (·.2))) m i acc S).bind fun xs S2 => Mi.new S2 (.lst xs)) Q,
    ⟨lim + 2, β1, S1, [], [], .lay hD, sm1.lay hD, upd_same, nD, .nil, w1⟩, ?_⟩
  rintro i m H2 ⟨β2, S2, acc, vs, x2, sm2, eD, nD2, rv, w2⟩
  cases m with
  | zero => exact w2.elim
  | succ m =>
    unfold compN at w2
    have RJ := rJ β2 S2 H2 i x2 sm2
    cases hn : itNext J i S2 with
    | none => rw [hn] at w2; exact w2.elim
    | some o =>
      rw [hn] at w2
      cases o with
      | none =>
        refine .inl ⟨RJ.1 hn, ?_⟩
        have sb : Sub N.K β2 H2 (Mi.ins β2 S2.length D') H2 := ⟨fun n a h => by
            have : n ≠ S2.length := Nat.ne_of_lt (sm2.up n a h)
            unfold Mi.ins; rw [if_neg this]; exact h, fun _ _ h => h, fun _ _ h => h⟩
        exact w2 _ _ _ (x2.adopt sm2 hD) (sm2.adopt nD2 ⟨vs, eD, VRs.mono sb _ _ rv⟩) (.ref (if_pos rfl))
      | some d =>
        obtain ⟨hgo, hy⟩ := RJ.2 d hn
        refine .inr ⟨hgo, _, fun H' h => ⟨m, Nat.lt_succ_self m, h⟩, fun x H' hx => ?_⟩
        obtain ⟨x3, sm3, rx⟩ := hy x H' hx
        simp only at w2
        cases ha : asg tg d (wipeD env (own.map (·.2))) with
        | none => rw [ha] at w2; exact w2.elim
        | some env1 =>
          rw [ha] at w2
          have er3 : EnvR N.K β2 H' (wipeD env (own.map (·.2))) (L2.wipe σ (own.map (·.2))) := (er.nxt sm ((x1.trans x2).trans x3)).wipe _
          obtain ⟨σ2, er4, hg, hw⟩ := asg_rel er3 rx ha
          refine hg _ ⟨by rw [wipe_asg hown hw, wipe_wipe], ?_⟩
          simp only at w2
          rw [out_assoc] at w2
          refine ⟨β2, env1, S2, sm3, er4, Want.bind0 (R' := RD N) w2 fun t S4 _ β4 H4 t' x4 sm4 rt w4 => ?_⟩
          cases rt
          have x24 := x3.trans x4
          have eD4 : H4 D' = some (.lst vs) := x24.kept _ _ eD nD2
          have nD4 := x24.nimg nD2 eD
          have rv4 := rv.nxt sm2 x24
          cases t with
          | false => exact iteF ⟨β4, S4, acc, vs, x2.trans x24, sm4, eD4, nD4, rv4, w4⟩
          | true =>
            refine iteT ?_
            rw [out_assoc] at w4
            refine ⟨β4, env1, S4, sm4, er4.nxt sm3 x4, Want.bind0 (R' := RD N) w4 fun y S5 _ β5 H5 yv x5 sm5 ry w5 => ?_⟩
            have eD5 : H5 D' = some (.lst vs) := x5.kept _ _ eD4 nD4
            have nD5 := x5.nimg nD4 eD4
            have rv5 := rv4.nxt sm4 x5
            split at w5
            · rename_i hl
              refine ⟨vs, eD5, by rw [← rv.length, ← lim_eq]; exact hl, ?_⟩
              exact ⟨β5, S5, acc ++ [y], vs ++ [yv], ((x2.trans x24).trans x5).side hD, sm5.side nD5 eD5, upd_same, nD5, VRs.mono (Sub.side (N := N) eD5) _ _ (rv5.append (.cons ry .nil)), w5⟩
            · exact w5.elim
end Mi

namespace Mi
open PySem L2 PySem.Spec PyProof.Rows RZ

inductive FV where
  | nx (σ : List (Option V)) | rt (v : V) | bk (σ : List (Option V)) | ct (σ : List (Option V))
def RF (N : Nm) (β : Bt) (H : Hp) : Fl → FV → Prop
  | .nx env, .nx σ => EnvR N.K β H env σ
  | .rt d, .rt v => VR N.K β H d v
  | .bk env, .bk σ => EnvR N.K β H env σ
  | .ct env, .ct σ => EnvR N.K β H env σ
  | _, _ => False
def endQ (D : Ends) : FV → Hp → Prop
  | .nx σ, H => D.nx σ H
  | .rt v, H => D.rt v H
  | .bk σ, H => D.bk σ H
  | .ct σ, H => D.ct σ H
def tS (N : Nm) (Y : Fs) (c : C) : TS := fun D σ H => ∃ β env S, Sim N β S H ∧ EnvR N.K β H env σ ∧ Want N (RF N) β H (exec Y c env S) (endQ D)
def tSs (N : Nm) (Y : Fs) (cs : Cs) : TS := fun D σ H => ∃ β env S, Sim N β S H ∧ EnvR N.K β H env σ ∧ Want N (RF N) β H (execs Y cs env S) (endQ D)

section
variable {X : Cx} {N : Nm} {Y : Fs} {ea eb ec tgE : PySem.Expr} {a b c : E} {st : Stmt} {sts : List Stmt} {s1 : C} {ss : Cs} {pos p p' : Pos}
theorem ss_nil : PSs X [] (tSs N Y .nil) :=
  PSs.imp pss_nil fun D σ H h => by
    obtain ⟨β, env, S, sm, er, w⟩ := h
    exact Want.here (R := RF N) (t := FV.nx σ) w sm er
theorem ss_cons (h1 : PS X st (tS N Y s1)) (h2 : PSs X sts (tSs N Y ss)) : PSs X (st :: sts) (tSs N Y (.cons s1 ss)) :=
  PSs.imp (pss_cons h1 h2) fun D σ H h => by
    obtain ⟨β, env, S, sm, er, w⟩ := h
    refine ⟨β, env, S, sm, er, Want.bind (R' := RF N) w fun fl S1 _ β1 H1 t x1 sm1 r w1 => ?_⟩
    cases fl with
    | nx env1 =>
      cases t with
      | nx σ1 => exact ⟨β1, env1, S1, sm1, r, w1⟩
      | _ => exact r.elim
    | rt d =>
      cases t with
      | rt v => exact Want.here (R := RF N) (Q := endQ D) (t := FV.rt v) w1 sm1 r
      | _ => exact r.elim
    | bk env1 =>
      cases t with
      | bk σ1 => exact Want.here (R := RF N) (Q := endQ D) (t := FV.bk σ1) w1 sm1 r
      | _ => exact r.elim
    | ct env1 =>
      cases t with
      | ct σ1 => exact Want.here (R := RF N) (Q := endQ D) (t := FV.ct σ1) w1 sm1 r
      | _ => exact r.elim
theorem s_set {i : Nat} {x : Str} (hN : X.N.Nodup) (hi : X.N[i]? = some x) (hx : Loc X.env.scope x) (hf : X.fn x = true ∨ X.env.scope.names.lookup x = some .local) (hs : swapsWith ea (some (.Name x p)) pos.line X.env = pure false) (h : PE X ea (tE N Y a)) : PS X (.Assign [.Name x p] ea pos) (tS N Y (.set i a)) :=
  PS.imp (ps_set hN hi hx h hs hf) fun D σ H h => by
    obtain ⟨β, env, S, sm, er, w⟩ := h
    refine tE_bind (R' := RF N) sm er w fun d S1 β1 H1 v x1 sm1 er1 r1 w1 => ?_
    exact Want.here (R := RF N) (t := FV.nx (σ.set i (some v))) w1 sm1 (er1.set r1)
theorem op_augR (op : Operator) : PIp X op (r2 N (augD op)) := by
  intro pins s σ H x y v u Q I rx ry h
  obtain ⟨β, S, d, e, sm, vd, ve, w⟩ := h
  unfold augD at w
  split at w
  · cases vd; cases ve
    exact iop_add pins s σ H _ _ v u Q I rx ry ⟨_, _, rfl, rfl, w.here sm (.int _)⟩
  · cases vd; cases ve
    exact iop_sub pins s σ H _ _ v u Q I rx ry ⟨_, _, rfl, rfl, w.here sm (.int _)⟩
  · split at w
    · rename_i hl
      cases vd; cases ve
      exact iop_add_str pins s σ H _ _ v u Q I rx ry ⟨_, _, rfl, rfl, by rw [← lim_eq]; exact hl, w.here sm (.str _)⟩
    · exact w.elim
  · exact w.elim
theorem s_aug {i : Nat} {x : Str} {op : Operator} (hN : X.N.Nodup) (hi : X.N[i]? = some x) (hx : Loc X.env.scope x) (hf : X.fn x = true ∨ X.env.scope.names.lookup x = some .local) (h : PE X ea (tE N Y a)) : PS X (.AugAssign (.Name x p) op ea pos) (tS N Y (.aug i op a)) :=
  PS.imp (ps_aug hN hi hx h (op_augR op) hf) fun D σ H h => by
    obtain ⟨β, env, S, sm, er, w⟩ := h
    unfold exec at w
    split at w
    · rename_i d hd
      obtain ⟨v, e1, r⟩ := er.val i d hd
      refine ⟨v, e1, ?_⟩
      refine tE_bind (R' := RF N) sm er w fun d1 S1 β1 H1 v1 x1 sm1 er1 r1 w1 => ?_
      refine ⟨β1, S1, d, d1, sm1, r.nxt sm x1, r1, ?_⟩
      refine Want.bind (R' := RF N) w1 fun d2 S2 _ β2 H2 v2 x2 sm2 r2 w2 => ?_
      exact Want.here (R := RF N) (t := FV.nx (σ.set i (some v2))) w2 sm2 ((er1.nxt sm1 x2).set r2)
    · exact w.elim
theorem s_setLc {i : Nat} {x : Str} {own : List (Str × Nat)} {tg : Tg} {it : I} {fs : Es} {elt iter : PySem.Expr} {ifs : List PySem.Expr} {scope : Scope} (hK : X.K = N.K) (hc : X.calm = true) (hN : X.N.Nodup) (hy : X.N[i]? = some x) (hyl : X.env.scope.names.lookup x = some .local)
    (hsw : swapsWith (.ListComp elt [⟨tgE, iter, ifs, 0⟩] scope p') (some (.Name x p)) pos.line X.env = pure true) (hi : PI X tgE iter (tI N Y it)) (ok : BlkOk X.N X.env.scope scope own)
    (hg : ∀ (s : Shared) (H : Hp) (C : Addr) (cl : List (Str × Addr)) (fp : List Addr), PG (X.blk s H scope (compEnvC scope cl C X.env) fp) tgE (gT X.K tg)) (ht : ∀ (s : Shared) (H : Hp) (C : Addr) (cl : List (Str × Addr)) (fp : List Addr), PTs (X.blk s H scope (compEnvC scope cl C X.env) fp) ifs (tIfs N Y fs))
    (he : ∀ (s : Shared) (H : Hp) (C : Addr) (cl : List (Str × Addr)) (fp : List Addr), PE (X.blk s H scope (compEnvC scope cl C X.env) fp) elt (tE N Y a)) (hs : ∀ x, foldedSetIterable iter X.env x = pure x) (hown : ∀ i ∈ tg.slots, i ∈ own.map (·.2)) :
    PS X (.Assign [.Name x p] (.ListComp elt [⟨tgE, iter, ifs, 0⟩] scope p') pos) (tS N Y (.set i (.comp own tg it fs a))) := by
  have q := ps_setLc (pos := p') hc hN hy hyl hsw hi ok hg ht he hs
  rw [hK] at q
  refine PS.imp q fun D σ H h => ?_
  refine comp_read hown σ H _ ?_
  obtain ⟨β, env, S, sm, er, w⟩ := h
  refine tE_bind (R' := RF N) sm er w fun d S1 β1 H1 v x1 sm1 er1 r1 w1 => ?_
  exact Want.here (R := RF N) (t := FV.nx (σ.set i (some v))) w1 sm1 (er1.set r1)
theorem e_comp {own : List (Str × Nat)} {tg : Tg} {it : I} {fs : Es} {elt iter : PySem.Expr} {ifs : List PySem.Expr} {scope : Scope} (hK : X.K = N.K) (hc : X.calm = true) (hN : X.N.Nodup) (hi : PI X tgE iter (tI N Y it)) (ok : BlkOk X.N X.env.scope scope own)
    (hg : ∀ (s : Shared) (H : Hp) (C : Addr) (cl : List (Str × Addr)) (fp : List Addr), PG (X.blk s H scope (compEnvC scope cl C X.env) fp) tgE (gT X.K tg)) (ht : ∀ (s : Shared) (H : Hp) (C : Addr) (cl : List (Str × Addr)) (fp : List Addr), PTs (X.blk s H scope (compEnvC scope cl C X.env) fp) ifs (tIfs N Y fs))
    (he : ∀ (s : Shared) (H : Hp) (C : Addr) (cl : List (Str × Addr)) (fp : List Addr), PE (X.blk s H scope (compEnvC scope cl C X.env) fp) elt (tE N Y a)) (hs : ∀ x, foldedSetIterable iter X.env x = pure x) (hown : ∀ i ∈ tg.slots, i ∈ own.map (·.2)) :
    PE X (.ListComp elt [⟨tgE, iter, ifs, 0⟩] scope pos) (tE N Y (.comp own tg it fs a)) := by
  have q := pe_lc (pos := pos) hc hN hi ok hg ht he hs
  rw [hK] at q
  exact PE.imp q fun σ H Q h => comp_read hown σ H _ h
theorem s_setT {is : List Nat} (hg : PG X tgE (gT X.K (.tup is))) (hK : X.K = N.K) (hs : swapsWithSole [tgE] ea pos.line X.env = pure false) (hw : swappedStores [tgE] ea X.env = pure none) (h1 : (assignEach [tgE] X.env).map (·.2) = [assign tgE X.env]) (h : PE X ea (tE N Y a)) : PS X (.Assign [tgE] ea pos) (tS N Y (.setT is a)) := by
  have q := ps_asg h hg hs hw h1
  rw [hK] at q
  refine PS.imp q fun D σ H h => ?_
  obtain ⟨β, env, S, sm, er, w⟩ := h
  refine tE_bind (R' := RF N) sm er w fun d S1 β1 H1 v x1 sm1 er1 r1 w1 => ?_
  split at w1
  · rename_i env1 ha
    obtain ⟨σ', er2, hq⟩ := asgS_rel sm1 er1 r1 ha
    exact hq _ (Want.here (R := RF N) (t := FV.nx σ') w1 sm1 er2)
  · exact w1.elim
theorem s_par {i j : Nat} {x y : Str} {px py pt : Pos} {kt k2 : Nat} {pt2 : Pos} (hc : X.calm = true) (hN : X.N.Nodup) (hi : X.N[i]? = some x) (hj : X.N[j]? = some y) (hij : i ≠ j) (hx : X.env.scope.names.lookup x = some .local) (hy : X.env.scope.names.lookup y = some .local)
    (h1 : PE X ea (tE N Y a)) (h2 : PE X eb (tE N Y b)) (hs1 : starEach [ea, eb] X.env = (false, eval ea X.env) :: starEach [eb] X.env) (hs2 : starEach [eb] X.env = [(false, eval eb X.env)])
    (hw : swappedStores [.Tuple [.Name x px, .Name y py] kt pt] (.Tuple [ea, eb] k2 pt2) X.env = pure (some [x, y])) :
    PS X (.Assign [.Tuple [.Name x px, .Name y py] kt pt] (.Tuple [ea, eb] k2 pt2) pos) (tS N Y (.par i j a b)) :=
  PS.imp (ps_par hc hN hi hj hij hx hy (pa_cons h1 (pa_cons h2 pa_nil hs2) hs1) hw) fun D σ H h => by
    obtain ⟨β, env, S, sm, er, w⟩ := h
    refine tE_bind (R' := RF N) sm er w fun d S1 β1 H1 v x1 sm1 er1 r1 w1 => ?_
    refine tE_bind (R' := RF N) sm1 er1 w1 fun d2 S2 β2 H2 v2 x2 sm2 er2 r2 w2 => ?_
    exact ⟨v, v2, rfl, Want.here (R := RF N) (t := FV.nx ((σ.set i (some v)).set j (some v2))) w2 sm2 ((er2.set (r1.nxt sm1 x2)).set r2)⟩
theorem s_ex (hs : swapsWith ea none pos.line X.env = pure false) (h : PE X ea (tE N Y a)) : PS X (.Expr ea pos) (tS N Y (.ex a)) :=
  PS.imp (ps_expr h hs) fun D σ H h => by
    obtain ⟨β, env, S, sm, er, w⟩ := h
    refine tE_bind (R' := RF N) sm er w fun d S1 β1 H1 v x1 sm1 er1 r1 w1 => ?_
    exact Want.here (R := RF N) (t := FV.nx σ) w1 sm1 er1
theorem s_ret (h : PE X ea (tE N Y a)) : PS X (.Return (some ea) pos) (tS N Y (.ret a)) :=
  PS.imp (ps_ret h) fun D σ H h => by
    obtain ⟨β, env, S, sm, er, w⟩ := h
    refine tE_bind (R' := RF N) sm er w fun d S1 β1 H1 v x1 sm1 er1 r1 w1 => ?_
    exact Want.here (R := RF N) (t := FV.rt v) w1 sm1 r1
theorem s_retN : PS X (.Return none pos) (tS N Y .retN) :=
  PS.imp ps_retN fun D σ H h => by
    obtain ⟨β, env, S, sm, er, w⟩ := h
    exact Want.here (R := RF N) (t := FV.rt .non) w sm .non
theorem s_pass : PS X (.Pass pos) (tS N Y .pass) :=
  PS.imp ps_pass fun D σ H h => by
    obtain ⟨β, env, S, sm, er, w⟩ := h
    exact Want.here (R := RF N) (t := FV.nx σ) w sm er
theorem s_brk : PS X (.Break pos) (tS N Y .brk) :=
  PS.imp ps_break fun D σ H h => by
    obtain ⟨β, env, S, sm, er, w⟩ := h
    exact Want.here (R := RF N) (t := FV.bk σ) w sm er
theorem s_cnt : PS X (.Continue pos) (tS N Y .cnt) :=
  PS.imp ps_continue fun D σ H h => by
    obtain ⟨β, env, S, sm, er, w⟩ := h
    exact Want.here (R := RF N) (t := FV.ct σ) w sm er
theorem s_if {as bs : List Stmt} {xa xb : Cs} (hc : PT X ec (tT N Y c)) (ha : PSs X as (tSs N Y xa)) (hb : PSs X bs (tSs N Y xb)) : PS X (.If ec as bs pos) (tS N Y (.ifS c xa xb)) :=
  PS.imp (ps_if hc ha hb) fun D σ H h => by
    obtain ⟨β, env, S, sm, er, w⟩ := h
    refine tT_bind (R' := RF N) sm er w fun d S1 β1 H1 x1 sm1 er1 w1 => ?_
    cases d with
    | true => exact iteT ⟨β1, env, S1, sm1, er1, w1⟩
    | false => exact iteF ⟨β1, env, S1, sm1, er1, w1⟩

/-! ### stores to items -/
def rSet (N : Nm) : TSet := fun o i v H Q => ∃ β S a k x, Sim N β S H ∧ VR N.K β H a o ∧ VR N.K β H k i ∧ VR N.K β H x v ∧ ∃ S', setD a k x S = some S' ∧ ∀ β' H', Nxt β H β' H' → Sim N β' S' H' → Q H'
theorem set_all (hu : X.A.units + 1 < cLine) : PSet X (rSet N) := by
  intro pins s σ H o i v ov iv u Q I ro ri rv h
  obtain ⟨β, S, a, k, x, sm, va, vk, vx, S', hs, q⟩ := h
  unfold setD at hs
  split at hs
  · rename_i n
    cases va with
    | ref hb =>
      split at hs
      · rename_i xs hx
        obtain ⟨vs, e1, r1⟩ := sm.at hb hx
        split at hs
        · split at hs
          · rename_i j hj
            cases hs
            cases vk
            refine set_list pins s σ H _ _ v ov iv u Q I ro ri rv ⟨_, vs, _, j, rfl, rfl, e1, by rw [← r1.length]; exact hj, ?_⟩
            exact q _ _ (.write hb) (sm.write hb ⟨_, upd_same, (r1.set j vx).nxt sm (.write hb)⟩)
          · cases hs
        · cases hs
      · rename_i kvs hx
        obtain ⟨ks, e1, r1⟩ := sm.at hb hx
        split at hs
        · rename_i kk hk
          split at hs
          · rename_i hl
            cases hs
            have ek := key_rel vk hk
            subst ek
            have hlen : kvs.length = ks.length := by
              clear hl e1 hx q
              induction r1 with
              | nil => rfl
              | cons _ _ ih => simp [ih]
            refine set_dict hu pins s σ H _ _ v ov iv u Q I ro ri rv ⟨_, _, rfl, DPut.k (k := kk) (v := v) e1 (by rw [← hlen, ← lim_eq]; exact hl), ?_⟩
            exact q _ _ (.write hb) (sm.write hb ⟨_, upd_same, Paired.imp (fun _ _ q => ⟨q.1, q.2.nxt sm (.write hb)⟩) (putK_rel vx r1)⟩)
          · cases hs
        · cases hs
      · cases hs
  · cases hs
theorem s_setIx {eo ei : PySem.Expr} {o i : E} (hu : X.A.units + 1 < cLine) (ho : PE X eo (tE N Y o)) (hi : PE X ei (tE N Y i)) (hv : PE X ea (tE N Y a))
    (hasg : ∀ v, assign (.Subscript eo ei p) X.env v = (do
      let ov ← holding [v] (eval eo X.env)
      let iv ← holding [v, ov] (eval ei X.env)
      standAt p
      holding [v, ov, iv] (setItem ov iv v)
      release [v, ov, iv] [])) (hs : swapsWithSole [.Subscript eo ei p] ea pos.line X.env = pure false) (hw : swappedStores [.Subscript eo ei p] ea X.env = pure none) (h1 : (assignEach [.Subscript eo ei p] X.env).map (·.2) = [assign (.Subscript eo ei p) X.env]) :
    PS X (.Assign [.Subscript eo ei p] ea pos) (tS N Y (.setIx o i a)) :=
  PS.imp (ps_asg hv (pg_sub ho hi (set_all hu) hasg) hs hw h1) fun D σ H h => by
    obtain ⟨β, env, S, sm, er, w⟩ := h
    refine tE_bind (R' := RF N) sm er w fun d S1 β1 H1 v x1 sm1 er1 r1 w1 => ?_
    refine tE_bind (R' := RF N) sm1 er1 w1 fun d2 S2 β2 H2 v2 x2 sm2 er2 r2 w2 => ?_
    refine tE_bind (R' := RF N) sm2 er2 w2 fun d3 S3 β3 H3 v3 x3 sm3 er3 r3 w3 => ?_
    split at w3
    · rename_i S4 hS
      refine ⟨β3, S3, d2, d3, d, sm3, r2.nxt sm2 x3, r3, (r1.nxt sm1 x2).nxt sm2 x3, S4, hS, fun β' H' x4 sm4 => ?_⟩
      exact Want.at (R := RF N) (t := FV.nx σ) w3 x4 sm4 (er3.nxt sm3 x4)
    · exact w3.elim

/-! ### loops -/
theorem s_for {iter : PySem.Expr} {body : List Stmt} {it : I} {tg : Tg} (hK : X.K = N.K) (hp : PassesOwn (model X.prog X.w) X.A X.env X.xe) (hc : X.calm = true) (hi : PI X tgE iter (tI N Y it)) (hg : PG X tgE (gT X.K tg)) (hb : PSs X body (tSs N Y ss))
    (hs : ∀ x, foldedSetIterable iter X.env x = pure x) : PS X (.For tgE iter body [] pos) (tS N Y (.forS tg it ss)) := by
  have q := ps_for (pos := pos) hp hc hi hg hb hs
  rw [hK] at q
  refine PS.imp q fun D σ H h => ?_
  obtain ⟨β, env, S, sm, er, w⟩ := h
  refine ⟨β, env, S, sm, er, Want.bind (R' := RF N) w fun J S1 _ β1 H1 JH x1 sm1 rJ w1 => ?_⟩
  refine ⟨fun i m σ H => ∃ β env S, Nxt β1 H1 β H ∧ Sim N β S H ∧ EnvR N.K β H env σ ∧ Want N (RF N) β1 H1 (forN (itNext J) (asg tg) (fun e s => execs Y ss e s) m i env S) (endQ D),
    ⟨lim + 2, β1, env, S1, .refl _ _, sm1, er.nxt sm x1, w1⟩, ?_⟩
  rintro i m σ2 H2 ⟨β2, env2, S2, x2, sm2, er2, w2⟩
  cases m with
  | zero => exact w2.elim
  | succ m =>
    unfold forN at w2
    have RJ := rJ β2 S2 H2 i x2 sm2
    cases hn : itNext J i S2 with
    | none => rw [hn] at w2; exact w2.elim
    | some o =>
      rw [hn] at w2
      cases o with
      | none => exact .inl ⟨RJ.1 hn, Want.at (R := RF N) (t := FV.nx σ2) w2 x2 sm2 er2⟩
      | some d =>
        obtain ⟨hgo, hy⟩ := RJ.2 d hn
        refine .inr ⟨hgo, _, fun σ' H' h => ⟨m, Nat.lt_succ_self m, h⟩, fun x H' hx => ?_⟩
        obtain ⟨x3, sm3, rx⟩ := hy x H' hx
        simp only at w2
        cases ha : asg tg d env2 with
        | none => rw [ha] at w2; exact w2.elim
        | some env3 =>
          rw [ha] at w2
          obtain ⟨σ3, er4, hgq, _⟩ := asg_rel (er2.nxt sm2 x3) rx ha
          refine hgq _ ⟨β2, env3, S2, sm3, er4, Want.bind0 (R' := RF N) w2 fun fl S4 _ β4 H4 t x4 sm4 r w4 => ?_⟩
          have xx := x2.trans (x3.trans x4)
          cases fl with
          | nx env5 =>
            cases t with
            | nx σ5 => exact ⟨β4, env5, S4, xx, sm4, r, w4⟩
            | _ => exact r.elim
          | ct env5 =>
            cases t with
            | ct σ5 => exact ⟨β4, env5, S4, xx, sm4, r, w4⟩
            | _ => exact r.elim
          | bk env5 =>
            cases t with
            | bk σ5 => exact Want.at (R := RF N) (Q := endQ D) (t := FV.nx σ5) w4 xx sm4 r
            | _ => exact r.elim
          | rt d5 =>
            cases t with
            | rt v5 => exact Want.at (R := RF N) (Q := endQ D) (t := FV.rt v5) w4 xx sm4 r
            | _ => exact r.elim
theorem s_whl {body : List Stmt} (hp : PassesOwn (model X.prog X.w) X.A X.env X.xe) (hc : PT X ec (tT N Y c)) (hb : PSs X body (tSs N Y ss)) : PS X (.While ec body [] pos) (tS N Y (.whl c ss)) :=
  PS.imp (ps_while hp hc hb) fun D σ H h => by
    obtain ⟨β1, env, S, sm, er, w⟩ := h
    refine ⟨fun m σ H2 => ∃ β env S, Nxt β1 H β H2 ∧ Sim N β S H2 ∧ EnvR N.K β H2 env σ ∧ Want N (RF N) β1 H (whlN (fun e s => evT Y c e s) (fun e s => execs Y ss e s) m env S) (endQ D),
      ⟨lim + 2, β1, env, S, .refl _ _, sm, er, w⟩, ?_⟩
    rintro m σ2 H2 ⟨β2, env2, S2, x2, sm2, er2, w2⟩
    cases m with
    | zero => exact (show False from w2).elim
    | succ m =>
      unfold whlN at w2
      refine ⟨β2, env2, S2, sm2, er2, Want.bind0 (R' := RF N) w2 fun t S3 _ β3 H3 t' x3 sm3 rt w3 => ?_⟩
      cases rt
      have er3 := er2.nxt sm2 x3
      cases t with
      | false => exact iteF (Want.at (R := RF N) (t := FV.nx σ2) w3 (x2.trans x3) sm3 er3)
      | true =>
        refine iteT ⟨_, fun σ' H' h => ⟨m, Nat.lt_succ_self m, h⟩, β3, env2, S3, sm3, er3, Want.bind0 (R' := RF N) w3 fun fl S4 _ β4 H4 t x4 sm4 r w4 => ?_⟩
        have xx := x2.trans (x3.trans x4)
        cases fl with
        | nx env5 =>
          cases t with
          | nx σ5 => exact ⟨β4, env5, S4, xx, sm4, r, w4⟩
          | _ => exact r.elim
        | ct env5 =>
          cases t with
          | ct σ5 => exact ⟨β4, env5, S4, xx, sm4, r, w4⟩
          | _ => exact r.elim
        | bk env5 =>
          cases t with
          | bk σ5 => exact Want.at (R := RF N) (Q := endQ D) (t := FV.nx σ5) w4 xx sm4 r
          | _ => exact r.elim
        | rt d5 =>
          cases t with
          | rt v5 => exact Want.at (R := RF N) (Q := endQ D) (t := FV.rt v5) w4 xx sm4 r
          | _ => exact r.elim
end
end Mi

namespace Mi
open PySem L2 PySem.Spec PyProof.Rows RZ

/-! ### the text and the trees: a look that says whether they go together -/
structure Tab where
  N : List Str
  fns : List Str
  gv : List Str
  bl : List Str
structure Sc where
  sc : Scope
  st : Str → Bool
def stB (scope : Scope) (x : Str) : Bool := match scope.names.lookup x with
  | some .local => true
  | some .cell => true
  | _ => false
def scF (sc : Scope) : Sc := ⟨sc, stB sc⟩
def scB (scope : Scope) (c : Sc) : Sc := ⟨relS scope c.sc, stB scope⟩
def visB (sc : Scope) (x : Str) : Bool := match sc.names.lookup x with
  | some .local => true
  | some .cell => true
  | some .free => true
  | _ => false
def glB (sc : Scope) (x : Str) : Bool := decide (sc.names.lookup x = some .globalImplicit)
def okn (x : Str) : Bool := !(x == ("__debug__" : Str)) && !(x == ("__classdict__" : Str)) && decide (x ≠ "__name__")
def conB : D → Const → Bool
  | .non, .none => true
  | .bl b, .bool b' => b == b'
  | .int i, .int j => decide (i = j)
  | .str x, .str y => decide (x = y)
  | _, _ => false
def BI.nm : BI → Str
  | .len => "len"
  | .min2 => "min"
  | .max2 => "max"
  | .abs => "abs"
  | .int1 => "int"
  | .lst1 => "list"
  | .tup1 => "tuple"
  | .all1 => "all"
  | .any1 => "any"
  | .sum1 => "sum"
def blB (T : Tab) (c : Sc) (x : Str) : Bool := glB c.sc x && okn x && decide (x ∈ T.bl)
def atB : PySem.Expr → Bool
  | .Call (.Name _ _) [] [] _ => false
  | _ => true
def KT.nm : KT → Str
  | .none => "NoneType"
  | .bool => "bool"
  | .int => "int"
  | .str => "str"
  | .tuple => "tuple"
  | .list => "list"
  | .dict => "dict"
def tysB (T : Tab) (c : Sc) : List Ty → List PySem.Expr → Bool
  | [], [] => true
  | .b k :: ts, .Name n _ :: es => decide (n = k.nm) && decide (k ≠ .none) && blB T c n && tysB T c ts es
  | _, _ => false
def tgB (T : Tab) (c : Sc) (own : Option (List Nat)) : Tg → PySem.Expr → Bool
  | .nm i, .Name x _ => decide (T.N[i]? = some x) && c.st x && (match own with
    | some l => decide (i ∈ l)
    | none => true)
  | .tup is, .Tuple es _ _ => nmsB is es
  | _, _ => false
where nmsB : List Nat → List PySem.Expr → Bool
  | [], [] => true
  | i :: is, .Name x _ :: es => decide (T.N[i]? = some x) && c.st x && (match own with
    | some l => decide (i ∈ l)
    | none => true) && nmsB is es
  | _, _ => false

mutual
def chkE (T : Tab) : E → Sc → PySem.Expr → Bool
  | .var i, c, e => match e with
    | .Name x _ => decide (T.N[i]? = some x) && visB c.sc x && okn x
    | _ => false
  | .con d, _, e => match e with
    | .Constant k _ _ => conB d k
    | _ => false
  | .glob g, c, e => match e with
    | .Name x _ => decide (T.gv[g]? = some x) && glB c.sc x && okn x
    | _ => false
  | .bin op a b, c, e => match e with
    | .BinOp l o r _ => decide (op = o) && chkE T a c l && chkE T b c r
    | _ => false
  | .una op a, c, e => match e with
    | .UnaryOp o x _ => decide (op = o) && decide (op ≠ .Not) && chkE T a c x
    | _ => false
  | .cmp op a b, c, e => match e with
    | .Compare l [o] [r] _ => decide (op = o) && !behindInMarks op r && chkE T a c l && chkE T b c r
    | _ => false
  | .chain op op' a b d, c, e => match e with
    | .Compare l [o, o'] [r, s] _ => decide (op = o) && decide (op' = o') && !lastMarks [op, op'] [r, s] && chkE T a c l && chkE T b c r && chkE T d c s
    | _ => false
  | .and_ es, c, e => match e with
    | .BoolOp .And vs _ => chkEs T es c vs && decide (vs ≠ [])
    | _ => false
  | .or_ es, c, e => match e with
    | .BoolOp .Or vs _ => chkEs T es c vs && decide (vs ≠ [])
    | _ => false
  | .not_ a, c, e => match e with
    | .UnaryOp .Not x _ => chkE T a c x
    | _ => false
  | .ite t a b, c, e => match e with
    | .IfExp t' a' b' _ => chkE T t c t' && chkE T a c a' && chkE T b c b'
    | _ => false
  | .tup es, c, e => match e with
    | .Tuple vs _ _ => chkEs T es c vs
    | _ => false
  | .lst es, c, e => match e with
    | .List vs _ => chkEs T es c vs
    | _ => false
  | .idx a i, c, e => match e with
    | .Subscript x y _ => chkE T a c x && chkE T i c y
    | _ => false
  | .slc a hl hh lo hi, c, e => match e with
    | .Subscript x (.Slice l h none _) _ => chkE T a c x && (match hl, l with
      | true, some y => chkE T lo c y
      | false, none => true
      | _, _ => false) && (match hh, h with
      | true, some y => chkE T hi c y
      | false, none => true
      | _, _ => false)
    | _ => false
  | .call f es, c, e => match e with
    | .Call (.Name x _) args [] _ => decide (T.fns[f]? = some x) && glB c.sc x && okn x && chkEs T es c args
    | _ => false
  | .bm m a es, c, e => match e with
    | .Call (.Attribute o nm apos) args [] cpos => decide (nm = m.nm) && atB o && (apos.endLine == cpos.line) && decide (args.length < 20) && chkE T a c o && chkEs T es c args
    | _ => false
  | .bi f es, c, e => match e with
    | .Call (.Name x _) (a :: args) [] _ => decide (x = f.nm) && blB T c x && chkEs T es c (a :: args)
    | _ => false
  | .isi a one ts, c, e => match e with
    | .Call (.Name x _) [e1, e2] [] _ => decide (x = "isinstance") && blB T c x && chkE T a c e1 && (match one, e2 with
      | true, .Name n p => tysB T c ts [.Name n p]
      | false, .Tuple es _ _ => tysB T c ts es && decide (ts ≠ []) && decide (ts.length ≤ 100)
      | _, _ => false)
    | _ => false
  | .comp own tg it ifs elt, c, e => match e with
    | .ListComp e' [⟨t, i, fs, 0⟩] scope _ => blkC T.N c.sc scope own && chkI T it c t i && tgB T (scB scope c) (some (own.map (·.2))) tg t && decide (fs.length ≤ 1) && chkEs T ifs (scB scope c) fs && chkE T elt (scB scope c) e'
    | _ => false
  | .dnew t, _, e => match e with
    | .Dict [] [] _ => true
    | _ => false
  | .attr _ _, _, _ => false
  | .make _ _, _, _ => false
  | .meth _ _ _, _, _ => false
  | .dsp es, c, e => match e with
    | .Dict ks vs _ => chkPs T es c ks vs && decide (ks ≠ []) && decide (ks.length ≤ 15)
    | _ => false
  | .join a b, c, e => match e with
    | .Call (.Attribute o nm apos) [x] [] cpos => decide (nm = "join") && atB o && (apos.endLine == cpos.line) && chkE T a c o && chkE T b c x
    | _ => false
  | .lrev a, c, e => match e with
    | .Call (.Name x _) [.Call (.Name y _) [z] [] _] [] _ => decide (x = "list") && decide (y = "reversed") && blB T c x && blB T c y && chkE T a c z
    | _ => false
def chkEs (T : Tab) : Es → Sc → List PySem.Expr → Bool
  | .nil, _, l => match l with
    | [] => true
    | _ => false
  | .cons a es, c, l => match l with
    | e :: r => chkE T a c e && chkEs T es c r
    | _ => false
def chkPs (T : Tab) : Es → Sc → List (Option PySem.Expr) → List PySem.Expr → Bool
  | .nil, _, ks, vs => match ks, vs with
    | [], [] => true
    | _, _ => false
  | .cons a es, c, ks, vs => match ks, vs with
    | some k :: kr, v :: vr => (match es with
      | .cons b es' => chkE T a c k && chkE T b c v && chkPs T es' c kr vr
      | .nil => false)
    | _, _ => false
def chkI (T : Tab) : I → Sc → PySem.Expr → PySem.Expr → Bool
  | .val a, c, _, e => chkE T a c e
  | .rng1 a, c, _, e => match e with
    | .Call (.Name x _) [y] [] _ => decide (x = "range") && blB T c x && chkE T a c y
    | _ => false
  | .rng2 a b, c, _, e => match e with
    | .Call (.Name x _) [y, z] [] _ => decide (x = "range") && blB T c x && chkE T a c y && chkE T b c z
    | _ => false
  | .enu a, c, t, e => match t, e with
    | .Tuple _ _ _, .Call (.Name x _) [y] [] _ => decide (x = "enumerate") && blB T c x && chkE T a c y
    | _, _ => false
  | .zip a b, c, t, e => match t, e with
    | .Tuple _ _ _, .Call (.Name x _) [y, z] [] _ => decide (x = "zip") && blB T c x && chkE T a c y && chkE T b c z
    | _, _ => false
end

/-! ### what the look gives, without values -/
theorem nostar {T : Tab} {a : E} {c : Sc} {e : PySem.Expr} (h : chkE T a c e = true) (env : PySem.Env) (r : List PySem.Expr) : starEach (e :: r) env = (false, eval e env) :: starEach r env := by
  cases e <;> first
    | rfl
    | (cases a <;> simp [chkE] at h)
theorem star_all {T : Tab} : ∀ {es : Es} {c : Sc} {l : List PySem.Expr}, chkEs T es c l = true → ∀ env, starEach l env = l.map fun e => (false, eval e env)
  | .nil, c, l, h, env => by
    unfold chkEs at h
    split at h
    · rfl
    · cases h
  | .cons a es, c, l, h, env => by
    unfold chkEs at h
    split at h
    · rw [Bool.and_eq_true] at h
      rw [nostar h.1, star_all h.2, List.map_cons]
    · cases h
theorem back_all {l : List PySem.Expr} {env : PySem.Env} {pos : Pos} (h : starEach l env = l.map fun e => (false, eval e env)) : (backTo pos (starEach l env)).any (·.1) = false := by
  rw [h]
  unfold backTo
  rw [List.map_map, List.any_map]
  induction l with
  | nil => rfl
  | cons e l ih => rw [List.any_cons]; exact Bool.or_eq_false_iff.mpr ⟨rfl, by
      clear ih h
      induction l with
      | nil => rfl
      | cons e l ih => rw [List.any_cons]; exact Bool.or_eq_false_iff.mpr ⟨rfl, ih⟩⟩
theorem back_all' {l : List PySem.Expr} {env : PySem.Env} {pos : Pos} (h : starEach l env = l.map fun e => (false, eval e env)) : (backTo pos (starEach l env)).all (fun x => !x.1) = true := by
  rw [h]
  unfold backTo
  rw [List.map_map, List.all_map]
  clear h
  induction l with
  | nil => rfl
  | cons e l ih => rw [List.all_cons]; exact Bool.and_eq_true_iff.mpr ⟨rfl, ih⟩
theorem atB_ok {o : PySem.Expr} (h : atB o = true) (nm : Str) (env : PySem.Env) (whole : Sem Value) : attributeBase o nm env whole = whole := by
  unfold attributeBase
  split
  · cases h
  · rfl
theorem plain_ix {T : Tab} {a : E} {c : Sc} {e : PySem.Expr} (h : chkE T a c e = true) : PlainIx e := by
  intro o i
  cases e <;> first
    | rfl
    | (cases a <;> simp [chkE] at h)
theorem no_fold {T : Tab} {it : I} {c : Sc} {t e : PySem.Expr} (h : chkI T it c t e = true) (env : PySem.Env) (x : Value) : foldedSetIterable e env x = pure x := by
  cases e <;> first
    | rfl
    | (cases it <;> simp [chkI] at h <;> rename_i a <;> cases a <;> simp [chkE] at h)
    | (cases it <;> simp [chkI] at h <;> split at h <;> simp at h)
end Mi

namespace Mi
open PySem L2 PySem.Spec PyProof.Rows RZ

structure Wd where
  P : Program
  w : World
  mg : Str → Option Value
  base : Heap
  N : Nm
structure WOK (W : Wd) (T : Tab) (n : Nat) (Y : Fs) : Prop where
  fn : ∀ (f : Nat) (x : Str), T.fns[f]? = some x → ∃ (fa : Addr) (fd : FuncData) (ps : List Str), W.mg x = some (.ref fa) ∧ PySem.W.keepIn W.N.K (.ref fa) = true ∧ FnOk W.P W.w W.N.K W.mg W.base CX0 n fa fd ps (spF W.N (Y.f f)) ∧ Binds W.N.K fd ps []
  gv : ∀ (g : Nat) (x : Str), T.gv[g]? = some x → ∃ u v, W.mg x = some u ∧ RelV v u ∧ ∀ β H, VR W.N.K β H (Y.gv g) v
  bl : ∀ x ∈ T.bl, W.mg x = none
structure Gd (W : Wd) (T : Tab) (n : Nat) (c : Sc) (X : Cx) : Prop where
  hP : X.prog = W.P
  hw : X.w = W.w
  hK : X.K = W.N.K
  hm : X.mg = W.mg
  hb : X.base = W.base
  calm : X.calm = true
  room : Room n X.A
  nd : X.N.Nodup
  hN : X.N = T.N
  hsc : X.env.scope = c.sc
  knd : X.env.scope.kind = .function
  st : ∀ x, c.st x = true → Loc X.env.scope x ∧ (X.fn x = true ∨ X.env.scope.names.lookup x = some .local)
  po : ∀ e s, ¬ X.xe e s

section
variable {W : Wd} {T : Tab} {n : Nat} {c : Sc} {X : Cx} {Y : Fs}
theorem Gd.vis (g : Gd W T n c X) {x : Str} (h : visB c.sc x = true) : Vis X.env.scope x := by
  unfold visB at h
  unfold Vis
  rw [g.hsc]
  split at h
  · rename_i e; exact .inl e
  · rename_i e; exact .inr (.inl e)
  · rename_i e; exact .inr (.inr e)
  · cases h
theorem Gd.gl (g : Gd W T n c X) {x : Str} (h : glB c.sc x = true) : Gl X x := by
  show X.env.scope.names.lookup x = some .globalImplicit
  rw [g.hsc]
  exact of_decide_eq_true h
theorem okn_d {x : Str} (h : okn x = true) : (x == ("__debug__" : Str)) = false ∧ (x == ("__classdict__" : Str)) = false ∧ x ≠ "__name__" := by
  unfold okn at h
  rw [Bool.and_eq_true, Bool.and_eq_true] at h
  exact ⟨by simpa using h.1.1, by simpa using h.1.2, by simpa using h.2⟩
theorem Gd.hu (g : Gd W T n c X) : X.A.units + 65 < cLine := by have := g.room.un; omega
theorem Gd.called (g : Gd W T n c X) (w : WOK W T n Y) {f : Nat} {x : Str} (h : T.fns[f]? = some x) : CalledAs X W.N Y f x := by
  obtain ⟨fa, fd, ps, h1, h2, h3, h4⟩ := w.fn f x h
  exact ⟨fa, fd, ps, n, by rw [g.hm]; exact h1, by rw [g.hK]; exact h2, by rw [g.hP, g.hw, g.hK, g.hm, g.hb]; exact h3, g.room, by rw [g.hK]; exact h4⟩
theorem Gd.blk (g : Gd W T n c X) {scope : Scope} {own : List (Str × Nat)} (ok : BlkOk X.N X.env.scope scope own) (s : Shared) (H : Hp) (C : Addr) (cl : List (Str × Addr)) (fp : List Addr) : Gd W T n (scB scope c) (X.blk s H scope (compEnvC scope cl C X.env) fp) where
  hP := g.hP
  hw := g.hw
  hK := g.hK
  hm := g.hm
  hb := g.hb
  calm := g.calm
  room := g.room
  nd := g.nd
  hN := g.hN
  hsc := by
    show relabel scope X.env = relS scope c.sc
    rw [← g.hsc]
    rfl
  knd := ok.kind
  st := fun x h => by
    have key : ∀ k : NameKind, k ≠ .free → scope.names.lookup x = some k → (relabel scope X.env).names.lookup x = some k := fun k hk e => lookup_relS_keep (sc := X.env.scope) hk e
    have h : stB scope x = true := h
    unfold stB at h
    split at h
    · rename_i e
      exact ⟨.inl (key _ (by decide) e), .inr (key _ (by decide) e)⟩
    · rename_i e
      refine ⟨.inr (key _ (by decide) e), .inl ?_⟩
      show (scope.names.lookup x == some .cell) = true
      rw [e]; rfl
    · cases h
  po := fun _ _ z => z
theorem Gd.bl (g : Gd W T n c X) (w : WOK W T n Y) {x : Str} (h : blB T c x = true) : Gl X x ∧ X.mg x = none ∧ x ≠ "__name__" ∧ (x == ("__debug__" : Str)) = false := by
  unfold blB at h
  rw [Bool.and_eq_true, Bool.and_eq_true] at h
  obtain ⟨⟨h1, h2⟩, h3⟩ := h
  obtain ⟨a, b, d⟩ := okn_d h2
  exact ⟨g.gl h1, by rw [g.hm]; exact w.bl x (of_decide_eq_true h3), d, a⟩
theorem bi_boot (f : BI) : bootBuiltins f.nm = some f.val := by cases f <;> decide +kernel
theorem kt_boot {k : KT} (h : k ≠ .none) : bootBuiltins k.nm = some (.type k.name) := by
  cases k <;> first | exact absurd rfl h | decide +kernel
theorem isi_boot : bootBuiltins "isinstance" = some (.builtin "isinstance") := by decide +kernel
theorem tys_ok (g : Gd W T n c X) (w : WOK W T n Y) : ∀ {ts : List Ty} {es : List PySem.Expr}, tysB T c ts es = true → PA X es (tTys ts) ∧ ∀ t ∈ ts, ∃ k, t = .b k
  | [], es, h => by
    cases es with
    | nil => exact ⟨PA.imp pa_nil fun _ _ _ q => q, fun t ht => by cases ht⟩
    | cons e es => simp [tysB] at h
  | t :: ts, es, h => by
    cases t with
    | own c => simp [tysB] at h
    | b k =>
      cases es with
      | nil => simp [tysB] at h
      | cons e es =>
        cases e with
        | Name nm p =>
          simp only [tysB, Bool.and_eq_true, decide_eq_true_eq] at h
          obtain ⟨⟨⟨h1, h2⟩, h3⟩, h4⟩ := h
          subst h1
          obtain ⟨a1, a2, a3, a4⟩ := g.bl w h3
          obtain ⟨ih, io⟩ := tys_ok g w h4
          refine ⟨PA.imp (pa_cons (pe_bltn (v := .ty k.name) a1 a2 (kt_boot h2) rfl a3 a4) ih) fun _ _ _ q => q, fun t ht => ?_⟩
          rcases List.mem_cons.mp ht with e | ht
          · exact ⟨k, e⟩
          · exact io t ht
        | _ => simp [tysB] at h
theorem nms_ok (g : Gd W T n c X) {own : Option (List Nat)} : ∀ {is : List Nat} {es : List PySem.Expr}, tgB.nmsB T c own is es = true → PGs X es (gNs is) ∧ (assignEach es X.env).length = is.length ∧ (assignEach es X.env).findIdx? (·.1) = none
  | [], es, h => by
    cases es with
    | nil => exact ⟨gn_nil, rfl, rfl⟩
    | cons e es => simp [tgB.nmsB] at h
  | i :: is, es, h => by
    cases es with
    | nil => simp [tgB.nmsB] at h
    | cons e es =>
      cases e with
      | Name x p =>
        simp only [tgB.nmsB, Bool.and_eq_true, decide_eq_true_eq] at h
        obtain ⟨⟨⟨h1, h2⟩, h3⟩, h4⟩ := h
        obtain ⟨a1, a2, a3⟩ := nms_ok g h4
        obtain ⟨b1, b2⟩ := g.st x h2
        refine ⟨gn_cons g.nd (by rw [g.hN]; exact h1) b1 b2 a1 rfl, ?_, ?_⟩
        · show (_ :: assignEach es X.env).length = _
          rw [List.length_cons, a2, List.length_cons]
        · show (((false, _) : Bool × (Value → Sem Unit)) :: assignEach es X.env).findIdx? (·.1) = none
          rw [List.findIdx?_cons, a3]
          rfl
      | _ => simp [tgB.nmsB] at h
theorem nms_in {l : List Nat} : ∀ {is : List Nat} {es : List PySem.Expr}, tgB.nmsB T c (some l) is es = true → ∀ i ∈ is, i ∈ l
  | [], es, h, i, hi => by cases hi
  | i :: is, es, h, j, hj => by
    cases es with
    | nil => simp [tgB.nmsB] at h
    | cons e es =>
      cases e with
      | Name x p =>
        simp only [tgB.nmsB, Bool.and_eq_true, decide_eq_true_eq] at h
        obtain ⟨⟨⟨h1, h2⟩, h3⟩, h4⟩ := h
        rcases List.mem_cons.mp hj with e | hj
        · rw [e]; exact h3
        · exact nms_in h4 j hj
      | _ => simp [tgB.nmsB] at h
theorem tg_in {l : List Nat} {tg : Tg} {e : PySem.Expr} (h : tgB T c (some l) tg e = true) : ∀ i ∈ tg.slots, i ∈ l := by
  cases tg with
  | nm i =>
    cases e with
    | Name x p =>
      simp only [tgB, Bool.and_eq_true, decide_eq_true_eq] at h
      intro j hj
      have : j = i := by simpa [Tg.slots] using hj
      rw [this]; exact h.2
    | _ => simp [tgB] at h
  | tup is =>
    cases e with
    | Tuple es k p => exact nms_in (show tgB.nmsB T c (some l) is es = true from h)
    | _ => simp [tgB] at h
theorem tg_ok (g : Gd W T n c X) {own : Option (List Nat)} {tg : Tg} {e : PySem.Expr} (h : tgB T c own tg e = true) : PG X e (gT X.K tg) := by
  cases tg with
  | nm i =>
    cases e with
    | Name x p =>
      simp only [tgB, Bool.and_eq_true, decide_eq_true_eq] at h
      obtain ⟨⟨h1, h2⟩, h3⟩ := h
      obtain ⟨b1, b2⟩ := g.st _ h2
      exact g_nm g.nd (by rw [g.hN]; exact h1) b1 b2
    | _ => simp [tgB] at h
  | tup is =>
    cases e with
    | Tuple es k p =>
      obtain ⟨a1, a2, a3⟩ := nms_ok g (show tgB.nmsB T c own is es = true from h)
      exact g_tup g.calm a1 a2 a3
    | _ => simp [tgB] at h
theorem con_ok {d : D} {k : Const} {j : Nat} {pos : Pos} (h : conB d k = true) : ∃ v, PE X (.Constant k j pos) (tC v) ∧ ∀ β H, VR W.N.K β H d v := by
  unfold conB at h
  split at h
  · exact ⟨.non, pe_non, fun _ _ => .non⟩
  · rename_i b b'
    have : b = b' := by simpa using h
    subst this
    exact ⟨.bl b, pe_bl, fun _ _ => .bl b⟩
  · rename_i b b'
    have : b = b' := by simpa using h
    subst this
    exact ⟨.int b, pe_int, fun _ _ => .int b⟩
  · rename_i b b'
    have : b = b' := by simpa using h
    subst this
    exact ⟨.str b, pe_str, fun _ _ => .str b⟩
  · cases h
/-- all parts of a comprehension -/
structure CompOk (X : Cx) (N : Nm) (Y : Fs) (own : List (Str × Nat)) (tg : Tg) (it : I) (fs : Es) (a : E) (tgE iter elt : PySem.Expr) (ifs : List PySem.Expr) (scope : Scope) : Prop where
  hi : PI X tgE iter (tI N Y it)
  ok : BlkOk X.N X.env.scope scope own
  hg : ∀ (s : Shared) (H : Hp) (C : Addr) (cl : List (Str × Addr)) (fp : List Addr), PG (X.blk s H scope (compEnvC scope cl C X.env) fp) tgE (gT X.K tg)
  ht : ∀ (s : Shared) (H : Hp) (C : Addr) (cl : List (Str × Addr)) (fp : List Addr), PTs (X.blk s H scope (compEnvC scope cl C X.env) fp) ifs (tIfs N Y fs)
  he : ∀ (s : Shared) (H : Hp) (C : Addr) (cl : List (Str × Addr)) (fp : List Addr), PE (X.blk s H scope (compEnvC scope cl C X.env) fp) elt (tE N Y a)
  hs : ∀ x, foldedSetIterable iter X.env x = pure x
  hown : ∀ i ∈ tg.slots, i ∈ own.map (·.2)

structure PET (X : Cx) (N : Nm) (Y : Fs) (a : E) (ex : PySem.Expr) : Prop where
  e : PE X ex (tE N Y a)
  t : PT X ex (tT N Y a)
structure LST (X : Cx) (N : Nm) (Y : Fs) (es : Es) (l : List PySem.Expr) : Prop where
  a : PA X l (tEs N Y es)
  an : l ≠ [] → ∀ pos, PE X (.BoolOp .And l pos) (tAn N Y es) ∧ PW X (.BoolOp .And l pos) (tAnT N Y es)
  on : l ≠ [] → ∀ pos, PE X (.BoolOp .Or l pos) (tOn N Y es) ∧ PW X (.BoolOp .Or l pos) (tOnT N Y es)
  i : l.length ≤ 1 → PTs X l (tIfs N Y es)
theorem PET.of {X : Cx} {N : Nm} {Y : Fs} {a : E} {ex : PySem.Expr} (hK : X.K = N.K) (p : PE X ex (tE N Y a)) (he : ∀ whole, isTrue ex X.env whole = (do let v ← whole; standAt ex.pos; holding [v] (truthy v))) : PET X N Y a ex := ⟨p, t_of hK p he⟩
theorem ifs_nil {N : Nm} {Y : Fs} : PTs X [] (tIfs N Y .nil) := PTs.imp pts_nil fun σ H Q h => by
  obtain ⟨β, env, S, sm, er, w⟩ := h
  exact Want.here (R := RB) (a := true) (S := S) w sm rfl
theorem ifs_one {N : Nm} {Y : Fs} {a : E} {es : Es} {e : PySem.Expr} (h : PT X e (tT N Y a)) : PTs X [e] (tIfs N Y (.cons a es)) := PTs.imp (pts_one h) fun σ H Q h => h

theorem e_lrev {N : Nm} {a : E} {ea : PySem.Expr} {p p2 pos pos2 : Pos} (hK : X.K = N.K) (hc : X.calm = true) (hg : Gl X "list") (hm : X.mg "list" = none) (hg2 : Gl X "reversed") (hm2 : X.mg "reversed" = none) (ha : PE X ea (tE N Y a)) (hs : starEach [ea] X.env = [(false, eval ea X.env)]) :
    PE X (.Call (.Name "list" p) [.Call (.Name "reversed" p2) [ea] [] pos2] [] pos) (tE N Y (.lrev a)) := by
  have q := pe_lstRev (X := X) (p := p) (p2 := p2) (pos := pos) (pos2 := pos2) hc hg hm hg2 hm2 ha hs rfl
  rw [hK] at q
  refine PE.imp q fun σ H Q h => ?_
  obtain ⟨β, env, S, sm, er, w⟩ := h
  refine tE_bind (R' := RD N) sm er w fun d S1 β1 H1 v x1 sm1 er1 r1 w1 => ?_
  split at w1
  · rename_i xs hx
    obtain ⟨l, vs, rfl, h1, h2⟩ := sm1.seq r1 hx
    exact ⟨l, vs, rfl, h1, w1.newL sm1 h2.reverse⟩
  · exact w1.elim
theorem e_dnew {N : Nm} (t : Bool) (pos : Pos) : PE X (.Dict [] [] pos) (tE N Y (.dnew t)) := by
  cases t with
  | false =>
    refine PE.imp pe_dnewK fun σ H Q h => ?_
    obtain ⟨β, env, S, sm, er, w⟩ := h
    exact fun q hq => w _ _ _ (.new sm hq) (sm.new hq ⟨[], upd_same, .nil⟩) (.ref (if_pos rfl))
  | true =>
    refine PE.imp pe_dnewT fun σ H Q h => ?_
    obtain ⟨β, env, S, sm, er, w⟩ := h
    exact fun q hq => w _ _ _ (.new sm hq) (sm.new hq ⟨[], upd_same, .nil⟩) (.ref (if_pos rfl))
/-- the pairs of a display -/
def RPs (N : Nm) : Bt → Hp → List D → List (V × V) → Prop := fun β H ds ps => VRs N.K β H ds (ps.flatMap fun p => [p.1, p.2])
def tPs (N : Nm) (Y : Fs) (es : Es) : L2.St → Hp → (List (V × V) → Hp → Prop) → Prop := fun σ H Q => ∃ β env S, Sim N β S H ∧ EnvR N.K β H env σ ∧ Want N (RPs N) β H (evs Y es env S) Q
structure PPR (X : Cx) (pos : Pos) (N : Nm) (Y : Fs) (es : Es) (ks : List (Option PySem.Expr)) (vs : List PySem.Expr) : Prop where
  p : ∃ trs, PPs X pos ks vs trs ∧ ∀ σ H Q, tPs N Y es σ H Q → tPairs trs σ H Q
  a : ks.all (·.isSome) = true
  l : ks.length = vs.length
theorem ps_nil {pos : Pos} {N : Nm} : PPR X pos N Y .nil [] [] := ⟨⟨[], pps_nil, fun σ H Q h => by
  obtain ⟨β, env, S, sm, er, w⟩ := h
  exact w.here (R := RPs N) sm .nil⟩, rfl, rfl⟩
theorem ps_cons {pos : Pos} {N : Nm} {a b : E} {es : Es} {k v : PySem.Expr} {ks : List (Option PySem.Expr)} {vs : List PySem.Expr} (hk : PE X k (tE N Y a)) (hv : PE X v (tE N Y b)) (h : PPR X pos N Y es ks vs) : PPR X pos N Y (.cons a (.cons b es)) (some k :: ks) (v :: vs) := by
  obtain ⟨⟨trs, p, q⟩, ha, hl⟩ := h
  refine ⟨⟨(tE N Y a, tE N Y b) :: trs, pps_cons hk hv p, fun σ H Q h => ?_⟩, by rw [List.all_cons, ha]; rfl, by rw [List.length_cons, List.length_cons, hl]⟩
  obtain ⟨β, env, S, sm, er, w⟩ := h
  refine tE_bind (R' := RPs N) sm er w fun d S1 β1 H1 x x1 sm1 er1 r1 w1 => ?_
  have w1' : Want N (RPs N) β1 H1 ((ev Y b env S1).bind fun y S2 => (evs Y es env S2).bind fun xs S3 => .ok (d :: y :: xs) S3) Q := by
    have e : ∀ (o : Out D), ((o.bind fun y S2 => (evs Y es env S2).bind fun xs S3 => .ok (y :: xs) S3).bind fun xs S2 => .ok (d :: xs) S2) = (o.bind fun y S2 => (evs Y es env S2).bind fun xs S3 => .ok (d :: y :: xs) S3) := fun o => by
      cases o with
      | ok y S2 => show ((evs Y es env S2).bind _).bind _ = (evs Y es env S2).bind _; cases evs Y es env S2 <;> rfl
      | exc c fs S => rfl
      | no => rfl
    rw [← e]; exact w1
  refine tE_bind (R' := RPs N) sm1 er1 w1' fun d2 S2 β2 H2 y x2 sm2 er2 r2 w2 => ?_
  refine q σ H2 _ ⟨β2, env, S2, sm2, er2, ?_⟩
  cases ho : evs Y es env S2 with
  | ok ds S3 =>
    rw [ho] at w2
    exact fun β3 H3 ps n s r => w2 β3 H3 ((x, y) :: ps) n s (.cons ((r1.nxt sm1 x2).nxt sm2 n) (.cons (r2.nxt sm2 n) r))
  | exc c fs S => rw [ho] at w2; exact w2
  | no => rw [ho] at w2; exact w2
theorem key_kV {K : PySem.W.Frag} {β : Bt} {H : Hp} {d : D} {v : V} {k : Key} (h : VR K β H d v) (e : d.key = some k) : v = kV k := by
  cases d <;> simp [D.key] at e
  · cases h; rw [← e]; rfl
  · cases h; rw [← e]; rfl
theorem pairs_rel {N : Nm} {β : Bt} {H : Hp} : ∀ {ps : List (V × V)} {ds : List D} {kvs : List (Key × D)}, RPs N β H ds ps → pairsD ds = some kvs → ∃ ks, ps = ks.map (fun kv => (kV kv.1, kv.2)) ∧ PVR N β H kvs ks
  | [], ds, kvs, h, e => by
    have h : VRs N.K β H ds [] := h
    cases h
    cases e
    exact ⟨[], rfl, .nil⟩
  | (x, y) :: ps, ds, kvs, h, e => by
    have h : VRs N.K β H ds (x :: y :: ps.flatMap fun p => [p.1, p.2]) := h
    cases h with
    | cons h1 h =>
      cases h with
      | cons h2 h =>
        unfold pairsD at e
        split at e
        · rename_i q l e1 e2
          cases e
          obtain ⟨ks, q1, q2⟩ := pairs_rel h e2
          refine ⟨(q, y) :: ks, ?_, .cons ⟨rfl, h2⟩ q2⟩
          rw [List.map_cons, ← q1, key_kV h1 e1]
        · cases e
theorem paired_len {α γ : Type} {P : α → γ → Prop} {l : List α} {m : List γ} (h : Paired P l m) : l.length = m.length := by
  induction h with
  | nil => rfl
  | cons _ _ ih => rw [List.length_cons, List.length_cons, ih]
/-- what is written at a place that is not ours -/
theorem Sub.other {N : Nm} {β β' : Bt} {H : Hp} {p : Addr} {u : HO} {kvs : List (Key × V)} (hp : H p = some (.dK kvs)) (he : ∀ n a, β n = some a → β' n = some a) : Sub N.K β H β' (upd H p u) where
  ext := he
  tup := fun a xs h => by
    have ne : ∀ w, H a = some w → (∀ z, w ≠ .dK z) → (upd H p u) a = some w := fun w hw hn => by
      rw [upd_ne]
      · exact hw
      · intro e; subst e; rw [hp] at hw; cases hw; exact hn _ rfl
    rcases h with (h | ⟨o, h⟩) | h
    · exact .inl (.inl (ne _ h fun z e => by cases e))
    · exact .inl (.inr ⟨o, ne _ h fun z e => by cases e⟩)
    · exact .inr h
  rol := fun a xs h => by
    rcases h with ⟨o, h⟩ | h
    · refine .inl ⟨o, ?_⟩
      rw [upd_ne]
      · exact h
      · intro e; subst e; rw [hp] at h; cases h
    · exact .inr h
theorem OR.sub {N : Nm} {β β' : Bt} {H H' : Hp} {a : Addr} {o : MO} (h : OR N β H a o) (x : Sub N.K β H β' H') (ha : H' a = H a) : OR N β' H' a o := by
  cases o with
  | lst xs =>
    obtain ⟨vs, e, r⟩ := h
    exact ⟨vs, ha.trans e, VRs.mono x _ _ r⟩
  | dK kvs =>
    obtain ⟨ks, e, r⟩ := h
    exact ⟨ks, ha.trans e, Paired.imp (fun _ _ q => ⟨q.1, VR.mono x _ _ q.2⟩) r⟩
  | dT kvs =>
    obtain ⟨ks, e, r⟩ := h
    exact ⟨ks, ha.trans e, Paired.imp (fun _ _ q => ⟨q.1, VR.mono x _ _ q.2⟩) r⟩
  | ins c fs =>
    obtain ⟨dx, fv, e, r⟩ := h
    exact ⟨dx, fv, ha.trans e, Paired.imp (fun _ _ q => ⟨q.1, VR.mono x _ _ q.2⟩) r⟩
theorem Sim.late {N : Nm} {β : Bt} {S : Sto} {H : Hp} {p : Addr} {kvs : List (Key × V)} {u : HO} {o : MO} (s : Sim N β S H) (hp : H p = some (.dK kvs)) (no : ∀ n, β n ≠ some p) (q : OR N (ins β S.length p) (upd H p u) p o) : Sim N (ins β S.length p) (S ++ [o]) (upd H p u) where
  obj := fun n o' h => by
    have hx : ∀ m a, β m = some a → ins β S.length p m = some a := fun m a e => by
      have : m ≠ S.length := Nat.ne_of_lt (s.up m a e)
      unfold ins; rw [if_neg this]; exact e
    by_cases hn : n < S.length
    · rw [List.getElem?_append_left hn] at h
      obtain ⟨a, e, r⟩ := s.obj n o' h
      exact ⟨a, hx n a e, r.sub (.other hp hx) (upd_ne fun z => no n (by rw [← z]; exact e))⟩
    · have hl := (List.getElem?_eq_some_iff.mp h).1
      rw [List.length_append, List.length_singleton] at hl
      have en : n = S.length := by omega
      subst en
      rw [List.getElem?_append_right (Nat.le_refl _), Nat.sub_self] at h
      cases h
      exact ⟨p, if_pos rfl, q⟩
  up := fun n a h => by
    rw [List.length_append, List.length_singleton]
    unfold ins at h
    split at h
    · omega
    · have := s.up n a h; omega
  inj := fun m n a h1 h2 => by
    unfold ins at h1 h2
    split at h1 <;> split at h2
    · omega
    · cases h1; exact absurd h2 (no n)
    · cases h2; exact absurd h1 (no m)
    · exact s.inj m n a h1 h2
theorem e_dsp {N : Nm} {pos : Pos} {es : Es} {ks : List (Option PySem.Expr)} {vs : List PySem.Expr} (h : PPR X pos N Y es ks vs) (h0 : ks ≠ []) (h15 : ks.length ≤ 15) : PE X (.Dict ks vs pos) (tE N Y (.dsp es)) := by
  obtain ⟨⟨trs, p, q⟩, ha, hl⟩ := h
  refine PE.imp (pe_disp p ha hl h0 h15) fun σ H Q h p hp => ?_
  obtain ⟨β, env, S, sm, er, w⟩ := h
  have sm1 := sm.lay (o := .dK []) hp
  have x1 : Nxt β H β (upd H p (.dK [])) := .lay hp
  refine q σ _ _ ⟨β, env, S, sm1, er.nxt sm x1, ?_⟩
  have w : Want N (RD N) β H ((evs Y es env S).bind fun ds S1 => match pairsD ds with
    | some kvs => if kvs.length ≤ 15 then new S1 (.dK (mergeD [] kvs)) else .no
    | none => .no) Q := w
  cases ho : evs Y es env S with
  | ok ds S1 =>
    rw [ho] at w
    intro β2 H2 ps n2 s2 r2
    have hp2 : H2 p = some (.dK []) := n2.kept p _ upd_same fun n e => by
      obtain ⟨u, e', _⟩ := sm.mut e
      rw [hp] at e'; cases e'
    refine ⟨hp2, ?_⟩
    have w : Want N (RD N) β H (match pairsD ds with
      | some kvs => if kvs.length ≤ 15 then new S1 (.dK (mergeD [] kvs)) else .no
      | none => .no) Q := w
    cases hq : pairsD ds with
    | none => rw [hq] at w; exact w.elim
    | some kvs =>
      rw [hq] at w
      have w : Want N (RD N) β H (if kvs.length ≤ 15 then new S1 (.dK (mergeD [] kvs)) else .no) Q := w
      split at w
      · rename_i h15
        obtain ⟨ks, q1, q2⟩ := pairs_rel r2 hq
        refine ⟨ks, q1, by rw [← paired_len q2]; exact h15, ?_⟩
        have no : ∀ n, β2 n ≠ some p := fun n e => by
          rcases n2.fresh n p e with h | h
          · obtain ⟨u, e', _⟩ := sm.mut h
            rw [hp] at e'; cases e'
          · rw [upd_same] at h; cases h
        have hx : ∀ m a, β2 m = some a → ins β2 S1.length p m = some a := fun m a e => by
          have : m ≠ S1.length := Nat.ne_of_lt (s2.up m a e)
          unfold ins; rw [if_neg this]; exact e
        have nx : Nxt β H (ins β2 S1.length p) (upd H2 p (.dK (mergeK [] ks))) := {
          ext := fun n a e => hx n a (n2.ext n a e)
          fresh := fun n a e => by
            unfold ins at e
            split at e
            · cases e; exact .inr hp
            · rcases n2.fresh n a e with h | h
              · exact .inl h
              · refine .inr ?_
                rwa [upd_ne] at h
                intro z; subst z; rw [upd_same] at h; cases h
          kept := fun a o e hn => by
            have ne : a ≠ p := fun z => by subst z; rw [hp] at e; cases e
            rw [upd_ne ne]
            exact n2.kept a o (by rw [upd_ne ne]; exact e) hn
          there := fun a o e => by
            have ne : a ≠ p := fun z => by subst z; rw [hp] at e; cases e
            obtain ⟨o', q⟩ := n2.there a o (by rw [upd_ne ne]; exact e)
            exact ⟨o', by rw [upd_ne ne]; exact q⟩ }
        refine w _ _ _ nx (s2.late hp2 no ⟨_, upd_same, Paired.imp (fun _ _ z => ⟨z.1, VR.mono (.other hp2 hx) _ _ z.2⟩) (merge_rel q2 .nil)⟩) (.ref (if_pos rfl))
      · exact w.elim
  | exc c fs S => rw [ho] at w; exact w
  | no => rw [ho] at w; exact w
mutual
theorem sndE (w : WOK W T n Y) : ∀ (a : E) (c : Sc) (e : PySem.Expr), chkE T a c e = true → ∀ X, Gd W T n c X → PET X W.N Y a e
  | .var i, c, e, h, X, g => by
    unfold chkE at h
    split at h
    · rename_i x pos
      simp only [Bool.and_eq_true, decide_eq_true_eq] at h
      obtain ⟨⟨h1, h2⟩, h3⟩ := h
      have p : PE X (.Name x pos) (tE W.N Y (.var i)) := e_var (by rw [g.hN]; exact h1) (g.vis h2) (okn_d h3).1 (okn_d h3).2.1
      exact ⟨p, t_of g.hK p fun _ => rfl⟩
    · cases h
  | .con d, c, e, h, X, g => by
    unfold chkE at h
    split at h
    · obtain ⟨v, h1, h2⟩ := con_ok (W := W) (X := X) h
      exact PET.of g.hK (e_con (Y := Y) h1 h2) fun _ => rfl
    · cases h
  | .glob gi, c, e, h, X, g => by
    unfold chkE at h
    split at h
    · simp only [Bool.and_eq_true, decide_eq_true_eq] at h
      obtain ⟨⟨h1, h2⟩, h3⟩ := h
      obtain ⟨u, v, e1, e2, e3⟩ := w.gv gi _ h1
      exact PET.of g.hK (e_glob (Y := Y) (pe_glob (g.gl h2) (by rw [g.hm]; exact e1) e2 (okn_d h3).1) e3) fun _ => rfl
    · cases h
  | .bin op a b, c, e, h, X, g => by
    unfold chkE at h
    split at h
    · simp only [Bool.and_eq_true, decide_eq_true_eq] at h
      obtain ⟨⟨h1, h2⟩, h3⟩ := h
      subst h1
      exact PET.of g.hK (e_bin g.hK (sndE w a c _ h2 X g).e (sndE w b c _ h3 X g).e) fun _ => rfl
    · cases h
  | .una op a, c, e, h, X, g => by
    unfold chkE at h
    split at h
    · simp only [Bool.and_eq_true, decide_eq_true_eq] at h
      obtain ⟨⟨h1, h2⟩, h3⟩ := h
      subst h1
      exact PET.of g.hK (e_una (sndE w a c _ h3 X g).e) fun _ => by cases op <;> first | rfl | exact absurd rfl h2
    · cases h
  | .cmp op a b, c, e, h, X, g => by
    unfold chkE at h
    split at h
    · simp only [Bool.and_eq_true, decide_eq_true_eq, Bool.not_eq_true'] at h
      obtain ⟨⟨⟨h1, h2⟩, h3⟩, h4⟩ := h
      subst h1
      exact ⟨e_cmp g.hK g.hu h2 (sndE w a c _ h3 X g).e (sndE w b c _ h4 X g).e, t_cmp g.hK g.hu h2 (sndE w a c _ h3 X g).e (sndE w b c _ h4 X g).e⟩
    · cases h
  | .chain op op' a b d, c, e, h, X, g => by
    unfold chkE at h
    split at h
    · simp only [Bool.and_eq_true, decide_eq_true_eq, Bool.not_eq_true'] at h
      obtain ⟨⟨⟨⟨⟨h1, h2⟩, h3⟩, h4⟩, h5⟩, h6⟩ := h
      subst h1 h2
      exact ⟨e_chain g.hK g.hu h3 (sndE w a c _ h4 X g).e (sndE w b c _ h5 X g).e (sndE w d c _ h6 X g).e, t_chain g.hK g.hu h3 (sndE w a c _ h4 X g).e (sndE w b c _ h5 X g).e (sndE w d c _ h6 X g).e⟩
    · cases h
  | .and_ es, c, e, h, X, g => by
    unfold chkE at h
    split at h
    · simp only [Bool.and_eq_true, decide_eq_true_eq] at h
      obtain ⟨p1, p2⟩ := (sndEs w es c _ h.1 X g).an h.2 _
      exact ⟨p1, p2.pt⟩
    · cases h
  | .or_ es, c, e, h, X, g => by
    unfold chkE at h
    split at h
    · simp only [Bool.and_eq_true, decide_eq_true_eq] at h
      obtain ⟨p1, p2⟩ := (sndEs w es c _ h.1 X g).on h.2 _
      exact ⟨p1, p2.pt⟩
    · cases h
  | .not_ a, c, e, h, X, g => by
    unfold chkE at h
    split at h
    · have p := sndE w a c _ h X g
      exact ⟨e_not g.hK p.e, t_not p.t⟩
    · cases h
  | .ite t a b, c, e, h, X, g => by
    unfold chkE at h
    split at h
    · simp only [Bool.and_eq_true] at h
      obtain ⟨⟨h1, h2⟩, h3⟩ := h
      have p1 := sndE w t c _ h1 X g
      have p2 := sndE w a c _ h2 X g
      have p3 := sndE w b c _ h3 X g
      exact ⟨e_ite p1.t p2.e p3.e, t_ite p1.t p2.t p3.t⟩
    · cases h
  | .tup es, c, e, h, X, g => by
    unfold chkE at h
    split at h
    · exact PET.of g.hK (e_tup (sndEs w es c _ h X g).a) fun _ => rfl
    · cases h
  | .lst es, c, e, h, X, g => by
    unfold chkE at h
    split at h
    · exact PET.of g.hK (e_lst (sndEs w es c _ h X g).a) fun _ => rfl
    · cases h
  | .idx a i, c, e, h, X, g => by
    unfold chkE at h
    split at h
    · simp only [Bool.and_eq_true] at h
      have hu := g.hu
      exact PET.of g.hK (e_idx g.hK (by omega) (plain_ix h.2) (sndE w a c _ h.1 X g).e (sndE w i c _ h.2 X g).e) fun _ => rfl
    · cases h
  | .slc a hl hh lo hi, c, e, h, X, g => by
    unfold chkE at h
    split at h
    · rename_i x l u p2 pos
      simp only [Bool.and_eq_true] at h
      obtain ⟨⟨h1, h2⟩, h3⟩ := h
      have pa := (sndE w a c _ h1 X g).e
      split at h2
      · have p1 := (sndE w lo c _ h2 X g).e
        split at h3
        · exact PET.of g.hK (e_slc11 (p2 := p2) g.hK pa p1 (sndE w hi c _ h3 X g).e) fun _ => rfl
        · exact PET.of g.hK (e_slc10 (hi := hi) (p2 := p2) g.hK pa p1) fun _ => rfl
        · cases h3
      · split at h3
        · exact PET.of g.hK (e_slc01 (lo := lo) (p2 := p2) g.hK pa (sndE w hi c _ h3 X g).e) fun _ => rfl
        · exact PET.of g.hK (e_slc00 (lo := lo) (hi := hi) (p2 := p2) g.hK pa) fun _ => rfl
        · cases h3
      · cases h2
    · cases h
  | .call f es, c, e, h, X, g => by
    unfold chkE at h
    split at h
    · rename_i x p0 args pos
      simp only [Bool.and_eq_true, decide_eq_true_eq] at h
      obtain ⟨⟨⟨h1, h2⟩, h3⟩, h4⟩ := h
      have L := sndEs w es c _ h4 X g
      have ca := g.called w h1
      cases args with
      | nil =>
        cases es with
        | nil =>
          exact PET.of g.hK (e_call0 (pos := pos) (p := p0) ca (g.gl h2) (okn_d h3).1) fun _ => rfl
        | cons a es => simp [chkEs] at h4
      | cons e1 r =>
        have hs := star_all h4 X.env
        have hs1 : starEach (e1 :: r) X.env = (false, eval e1 X.env) :: starEach r X.env ∧ (backTo pos (starEach r X.env)).any (·.1) = false := by
          cases es with
          | nil => simp [chkEs] at h4
          | cons a es =>
            unfold chkEs at h4
            simp only [Bool.and_eq_true] at h4
            exact ⟨nostar h4.1 _ _, back_all (star_all h4.2 _)⟩
        exact PET.of g.hK (e_call (pos := pos) (p := p0) ca (g.gl h2) (okn_d h3).1 hs1.1 hs1.2 L.a) fun _ => rfl
    · cases h
  | .bm m a es, c, e, h, X, g => by
    unfold chkE at h
    split at h
    · rename_i o nm apos args cpos
      simp only [Bool.and_eq_true, decide_eq_true_eq] at h
      obtain ⟨⟨⟨⟨⟨h1, h2⟩, h3⟩, h4⟩, h5⟩, h6⟩ := h
      subst h1
      have pa := (sndE w a c _ h5 X g).e
      have L := sndEs w es c _ h6 X g
      cases args with
      | nil =>
        cases es with
        | nil =>
          exact PET.of g.hK (e_bm0 (pos := cpos) (apos := apos) (m := m) g.hK g.hu pa (atB_ok h2 _ _ _) h3) fun _ => rfl
        | cons a es => simp [chkEs] at h6
      | cons e1 r =>
        have hs := star_all h6 X.env
        have hs1 : starEach (e1 :: r) X.env = (false, eval e1 X.env) :: starEach r X.env ∧ (backTo cpos (starEach r X.env)).any (·.1) = false := by
          cases es with
          | nil => simp [chkEs] at h6
          | cons a es =>
            unfold chkEs at h6
            simp only [Bool.and_eq_true] at h6
            exact ⟨nostar h6.1 _ _, back_all (star_all h6.2 _)⟩
        exact PET.of g.hK (e_bm (pos := cpos) (apos := apos) (m := m) g.hK g.hu pa L.a (atB_ok h2 _ _ _) (by
          rw [back_all' hs, Bool.true_and]
          rw [Bool.and_eq_true]
          refine ⟨rfl, decide_eq_true ?_⟩
          have h4' : (e1 :: r).length < 20 := h4
          show (e1 :: r).length + 0 + 0 < 30
          omega) h3 hs1.1 hs1.2) fun _ => rfl
    · cases h
  | .bi f es, c, e, h, X, g => by
    unfold chkE at h
    split at h
    · rename_i x p0 e1 r pos
      simp only [Bool.and_eq_true, decide_eq_true_eq] at h
      obtain ⟨⟨h1, h2⟩, h4⟩ := h
      subst h1
      obtain ⟨a1, a2, a3, a4⟩ := g.bl w h2
      have L := sndEs w es c _ h4 X g
      have hs1 : starEach (e1 :: r) X.env = (false, eval e1 X.env) :: starEach r X.env ∧ (backTo pos (starEach r X.env)).any (·.1) = false := by
        cases es with
        | nil => simp [chkEs] at h4
        | cons a es =>
          unfold chkEs at h4
          simp only [Bool.and_eq_true] at h4
          exact ⟨nostar h4.1 _ _, back_all (star_all h4.2 _)⟩
      exact PET.of g.hK (e_bi (f := f) (pos := pos) (p := p0) g.hK g.calm a1 a2 (bi_boot f) a3 a4 hs1.1 hs1.2 L.a) fun _ => rfl
    · cases h
  | .isi a one ts, c, e, h, X, g => by
    unfold chkE at h
    split at h
    · rename_i x p0 e1 e2 pos
      simp only [Bool.and_eq_true, decide_eq_true_eq] at h
      obtain ⟨⟨⟨h1, h2⟩, h3⟩, h4⟩ := h
      subst h1
      obtain ⟨a1, a2, a3, a4⟩ := g.bl w h2
      have pa := (sndE w a c _ h3 X g).e
      split at h4
      · rename_i nm p2
        cases ts with
        | nil => simp [tysB] at h4
        | cons t ts =>
          cases ts with
          | cons t2 ts => cases t <;> simp [tysB] at h4
          | nil =>
            cases t with
            | own c => simp [tysB] at h4
            | b k =>
              simp only [tysB, Bool.and_eq_true, decide_eq_true_eq] at h4
              obtain ⟨⟨⟨q1, q2⟩, q3⟩, _⟩ := h4
              subst q1
              obtain ⟨b1, b2, b3, b4⟩ := g.bl w q3
              exact PET.of g.hK (e_isi1 (k := k) (pos := pos) (p := p0) (p2 := p2) g.hK a1 a2 isi_boot a3 a4 b1 b2 (kt_boot q2) b3 b4 (nostar h3 _ _) pa) fun _ => rfl
      · rename_i es k p2
        simp only [Bool.and_eq_true, decide_eq_true_eq] at h4
        obtain ⟨⟨q1, q2⟩, q3⟩ := h4
        obtain ⟨r1, r2⟩ := tys_ok g w q1
        exact PET.of g.hK (e_isiT (k := k) (pos := pos) (p := p0) (p2 := p2) g.hK a1 a2 isi_boot a3 a4 r1 r2 q3 q2 (nostar h3 _ _) pa) fun _ => rfl
      · cases h4
    · cases h
  | .comp own tg it ifs elt, c, e, h, X, g => by
    unfold chkE at h
    split at h
    · rename_i e' t i fs scope pos
      simp only [Bool.and_eq_true, decide_eq_true_eq] at h
      obtain ⟨⟨⟨⟨⟨h1, h2⟩, h3⟩, h4⟩, h5⟩, h6⟩ := h
      have ok : BlkOk X.N X.env.scope scope own := by rw [g.hN, g.hsc]; exact blkOk_by h1
      exact PET.of g.hK (e_comp (pos := pos) g.hK g.calm g.nd (sndI w it c _ _ h2 X g) ok (fun s H C cl fp => tg_ok (g.blk ok s H C cl fp) h3) (fun s H C cl fp => (sndEs w ifs _ _ h5 _ (g.blk ok s H C cl fp)).i h4) (fun s H C cl fp => (sndE w elt _ _ h6 _ (g.blk ok s H C cl fp)).e) (no_fold h2 _) (tg_in h3)) fun _ => rfl
    · cases h
  | .dnew t, c, e, h, X, g => by
    unfold chkE at h
    split at h
    · have p := e_dnew (X := X) (N := W.N) (Y := Y) t
      exact ⟨p _, t_of g.hK (p _) fun _ => rfl⟩
    · cases h
  | .attr _ _, c, e, h, X, g => by cases h
  | .make _ _, c, e, h, X, g => by cases h
  | .meth _ _ _, c, e, h, X, g => by cases h
  | .dsp es, c, e, h, X, g => by
    unfold chkE at h
    split at h
    · rename_i ks vs pos
      simp only [Bool.and_eq_true, decide_eq_true_eq] at h
      obtain ⟨⟨h1, h2⟩, h3⟩ := h
      exact PET.of g.hK (e_dsp (sndPs w es c ks vs h1 X g pos) h2 h3) fun _ => rfl
    · cases h
  | .join a b, c, e, h, X, g => by
    unfold chkE at h
    split at h
    · rename_i o nm apos x cpos
      simp only [Bool.and_eq_true, decide_eq_true_eq] at h
      obtain ⟨⟨⟨⟨h1, h2⟩, h3⟩, h4⟩, h5⟩ := h
      subst h1
      exact PET.of g.hK (e_join (pos := cpos) (apos := apos) g.hK (sndE w a c _ h4 X g).e (sndE w b c _ h5 X g).e (nostar h5 _ _) (atB_ok h2 _ _ _) h3) fun _ => rfl
    · cases h
  | .lrev a, c, e, h, X, g => by
    unfold chkE at h
    split at h
    · rename_i x p y p2 z pos2 pos
      simp only [Bool.and_eq_true, decide_eq_true_eq] at h
      obtain ⟨⟨⟨⟨h1, h2⟩, h3⟩, h4⟩, h5⟩ := h
      subst h1 h2
      obtain ⟨a1, a2⟩ := g.bl w h3
      obtain ⟨b1, b2⟩ := g.bl w h4
      exact PET.of g.hK (e_lrev (pos := pos) (pos2 := pos2) (p := p) (p2 := p2) g.hK g.calm a1 a2.1 b1 b2.1 (sndE w a c _ h5 X g).e (nostar h5 _ _)) fun _ => rfl
    · cases h
theorem sndEs (w : WOK W T n Y) : ∀ (es : Es) (c : Sc) (l : List PySem.Expr), chkEs T es c l = true → ∀ X, Gd W T n c X → LST X W.N Y es l
  | .nil, c, l, h, X, g => by
    unfold chkEs at h
    split at h
    · exact ⟨es_nil, fun z => absurd rfl z, fun z => absurd rfl z, fun _ => ifs_nil⟩
    · cases h
  | .cons a es, c, l, h, X, g => by
    unfold chkEs at h
    split at h
    · rename_i e r
      rw [Bool.and_eq_true] at h
      have p := sndE w a c _ h.1 X g
      have L := sndEs w es c _ h.2 X g
      refine ⟨es_cons (nostar h.1 _ _) p.e L.a, fun _ pos => ?_, fun _ pos => ?_, fun hl => ?_⟩
      · cases r with
        | nil =>
          cases es with
          | nil => exact ⟨an_one p.e, ant_one p.t⟩
          | cons b es => simp [chkEs] at h
        | cons e2 r =>
          cases es with
          | nil => simp [chkEs] at h
          | cons b es =>
            obtain ⟨q1, q2⟩ := L.an (by simp) pos
            exact ⟨an_cons g.hK p.e q1, ant_cons p.t q2⟩
      · cases r with
        | nil =>
          cases es with
          | nil => exact ⟨on_one p.e, ont_one p.t⟩
          | cons b es => simp [chkEs] at h
        | cons e2 r =>
          cases es with
          | nil => simp [chkEs] at h
          | cons b es =>
            obtain ⟨q1, q2⟩ := L.on (by simp) pos
            exact ⟨on_cons g.hK p.e q1, ont_cons p.t q2⟩
      · cases r with
        | nil => exact ifs_one p.t
        | cons e2 r => simp at hl
    · cases h
theorem sndPs (w : WOK W T n Y) : ∀ (es : Es) (c : Sc) (ks : List (Option PySem.Expr)) (vs : List PySem.Expr), chkPs T es c ks vs = true → ∀ X, Gd W T n c X → ∀ pos, PPR X pos W.N Y es ks vs
  | .nil, c, ks, vs, h, X, g, pos => by
    unfold chkPs at h
    split at h
    · exact ps_nil
    · cases h
  | .cons a .nil, c, ks, vs, h, X, g, pos => by
    unfold chkPs at h
    split at h <;> cases h
  | .cons a (.cons b es), c, ks, vs, h, X, g, pos => by
    unfold chkPs at h
    split at h
    · simp only [Bool.and_eq_true] at h
      exact ps_cons (sndE w a c _ h.1.1 X g).e (sndE w b c _ h.1.2 X g).e (sndPs w es c _ _ h.2 X g pos)
    · cases h
theorem sndI (w : WOK W T n Y) : ∀ (it : I) (c : Sc) (t e : PySem.Expr), chkI T it c t e = true → ∀ X, Gd W T n c X → PI X t e (tI W.N Y it)
  | .val a, c, t, e, h, X, g => i_val g.hK (sndE w a c _ h X g).e
  | .rng1 a, c, t, e, h, X, g => by
    unfold chkI at h
    split at h
    · simp only [Bool.and_eq_true, decide_eq_true_eq] at h
      obtain ⟨⟨h1, h2⟩, h3⟩ := h
      subst h1
      obtain ⟨a1, a2, a3, a4⟩ := g.bl w h2
      exact i_rng1 a1 a2 (nostar h3 _ _) (sndE w a c _ h3 X g).e
    · cases h
  | .rng2 a b, c, t, e, h, X, g => by
    unfold chkI at h
    split at h
    · simp only [Bool.and_eq_true, decide_eq_true_eq] at h
      obtain ⟨⟨⟨h1, h2⟩, h3⟩, h4⟩ := h
      subst h1
      obtain ⟨a1, a2, a3, a4⟩ := g.bl w h2
      exact i_rng2 a1 a2 (by rw [nostar h3 _ _, nostar h4 _ _]; rfl) (nostar h4 _ _) (sndE w a c _ h3 X g).e (sndE w b c _ h4 X g).e
    · cases h
  | .enu a, c, t, e, h, X, g => by
    unfold chkI at h
    split at h
    · simp only [Bool.and_eq_true, decide_eq_true_eq] at h
      obtain ⟨⟨h1, h2⟩, h3⟩ := h
      subst h1
      obtain ⟨a1, a2, a3, a4⟩ := g.bl w h2
      exact i_enu g.hK a1 a2 (nostar h3 _ _) (sndE w a c _ h3 X g).e
    · cases h
  | .zip a b, c, t, e, h, X, g => by
    unfold chkI at h
    split at h
    · simp only [Bool.and_eq_true, decide_eq_true_eq] at h
      obtain ⟨⟨⟨h1, h2⟩, h3⟩, h4⟩ := h
      subst h1
      obtain ⟨a1, a2, a3, a4⟩ := g.bl w h2
      exact i_zip g.hK a1 a2 (nostar h3 _ _) (nostar h4 _ _) (sndE w a c _ h3 X g).e (sndE w b c _ h4 X g).e
    · cases h
end
end
end Mi

namespace Mi
open PySem L2 PySem.Spec PyProof.Rows RZ

def isComp : PySem.Expr → Bool
  | .ListComp _ _ _ _ => true
  | .SetComp _ _ _ _ => true
  | .DictComp _ _ _ _ _ => true
  | _ => false
/-- how a comprehension is given to a name -/
def swB (c : Sc) (x : Str) (p : Pos) : PySem.Expr → Bool
  | .ListComp _ _ s q => decide (c.sc.names.lookup x = some .local) && (p.line == q.line) && !(s.names.any fun (n, k) => n == x && (k == .local || k == .cell))
  | _ => false
def isTupE : PySem.Expr → Bool
  | .Tuple _ _ _ => true
  | _ => false
def isStarE : PySem.Expr → Bool
  | .Starred _ _ => true
  | _ => false
mutual
def chkC (T : Tab) : C → Sc → Stmt → Bool
  | .set i a, c, s => match s with
    | .Assign [.Name x p] e _ => decide (T.N[i]? = some x) && c.st x && chkE T a c e && (!isComp e || swB c x p e)
    | _ => false
  | .aug i op a, c, s => match s with
    | .AugAssign (.Name x _) o e _ => decide (T.N[i]? = some x) && c.st x && decide (op = o) && chkE T a c e
    | _ => false
  | .setT is a, c, s => match s with
    | .Assign [.Tuple es k p] e _ => tgB T c none (.tup is) (.Tuple es k p) && chkE T a c e && !isComp e && !isTupE e
    | _ => false
  | .par i j a b, c, s => match s with
    | .Assign [.Tuple [.Name x px, .Name y py] _ pt] (.Tuple [e1, e2] _ _) _ => decide (T.N[i]? = some x) && decide (T.N[j]? = some y) && decide (i ≠ j) && decide (x ≠ y) && decide (c.sc.names.lookup x = some .local) && decide (c.sc.names.lookup y = some .local) && (px.line == py.line)
        && chkE T a c e1 && chkE T b c e2 && !([e1, e2].all (foldedForSure 8)) && !([e1, e2].all (constantsAlone 8))
    | _ => false
  | .setIx o i a, c, s => match s with
    | .Assign [.Subscript eo ei _] e _ => chkE T a c e && chkE T o c eo && chkE T i c ei && !isComp e
    | _ => false
  | .ex a, c, s => match s with
    | .Expr e _ => chkE T a c e && !isComp e
    | _ => false
  | .ret a, c, s => match s with
    | .Return (some e) _ => chkE T a c e
    | _ => false
  | .retN, _, s => match s with
    | .Return none _ => true
    | _ => false
  | .pass, _, s => match s with
    | .Pass _ => true
    | _ => false
  | .brk, _, s => match s with
    | .Break _ => true
    | _ => false
  | .cnt, _, s => match s with
    | .Continue _ => true
    | _ => false
  | .ifS t a b, c, s => match s with
    | .If e x y _ => chkE T t c e && chkCs T a c x && chkCs T b c y
    | _ => false
  | .forS tg it b, c, s => match s with
    | .For t i x [] _ => chkI T it c t i && tgB T c none tg t && chkCs T b c x
    | _ => false
  | .whl t b, c, s => match s with
    | .While e x [] _ => chkE T t c e && chkCs T b c x
    | _ => false
  | .setAt _ _ _, _, _ => false
  | .doc, _, _ => false
def chkCs (T : Tab) : Cs → Sc → List Stmt → Bool
  | .nil, _, l => match l with
    | [] => true
    | _ => false
  | .cons a as, c, l => match l with
    | s :: r => chkC T a c s && chkCs T as c r
    | _ => false
end

section
variable {W : Wd} {T : Tab} {n : Nat} {c : Sc} {X : Cx} {Y : Fs}
theorem sw_none {e : PySem.Expr} (h : isComp e = false) (t : Option PySem.Expr) (l : Nat) (env : PySem.Env) : swapsWith e t l env = pure false := by
  cases e <;> first
    | rfl
    | cases h
theorem sw_sole {e tg : PySem.Expr} (h : isComp e = false) (l : Nat) (env : PySem.Env) : swapsWithSole [tg] e l env = pure false := by
  unfold swapsWithSole
  exact sw_none h _ _ _
theorem sw_sub {e eo ei : PySem.Expr} {p : Pos} (h : isComp e = false) (l : Nat) (env : PySem.Env) : swapsWithSole [.Subscript eo ei p] e l env = pure false := sw_sole h _ _
theorem asg_sub {T : Tab} {i : E} {c : Sc} {eo ei : PySem.Expr} {p : Pos} {env : PySem.Env} (h : chkE T i c ei = true) (v : Value) : assign (.Subscript eo ei p) env v = (do
      let ov ← holding [v] (eval eo env)
      let iv ← holding [v, ov] (eval ei env)
      standAt p
      holding [v, ov, iv] (setItem ov iv v)
      release [v, ov, iv] []) := by
  cases ei <;> first
    | rfl
    | (cases i <;> simp [chkE] at h)
theorem swapped_none {e tg : PySem.Expr} {env : PySem.Env} (h : isTupE e = false) : swappedStores [tg] e env = pure none := by
  cases tg <;> cases e <;> first
    | rfl
    | cases h
theorem swapped_sub {e eo ei : PySem.Expr} {p : Pos} {env : PySem.Env} : swappedStores [.Subscript eo ei p] e env = pure none := rfl
theorem swapped_par {x y : Str} {px py pt pt2 : Pos} {kt k2 : Nat} {e1 e2 : PySem.Expr} {env : PySem.Env} (hk : env.scope.kind = .function) (hx : env.scope.names.lookup x = some .local) (hy : env.scope.names.lookup y = some .local) (hl : (px.line == py.line) = true) (hxy : x ≠ y)
    (h1 : isStarE e1 = false) (h2 : isStarE e2 = false) (h3 : [e1, e2].all (foldedForSure 8) = false) (h4 : [e1, e2].all (constantsAlone 8) = false) :
    swappedStores [.Tuple [.Name x px, .Name y py] kt pt] (.Tuple [e1, e2] k2 pt2) env = pure (some [x, y]) := by
  have hb : env.blockKind = .function := by unfold Env.blockKind; rw [hk]; rfl
  have kx : env.kindOf x = some .local := hx
  have ky : env.kindOf y = some .local := hy
  have hl' : (py.line == px.line) = true := by simpa using (by simpa using hl : px.line = py.line).symm
  unfold swappedStores
  simp only [hb, h3, h4]
  simp [kx, ky, hl', Expr.pos, hxy, Ne.symm hxy]
  rw [if_neg (by
    rintro (z | z)
    · cases e1 <;> first | exact absurd z Bool.false_ne_true | exact absurd h1 (by simp [isStarE])
    · cases e2 <;> first | exact absurd z Bool.false_ne_true | exact absurd h2 (by simp [isStarE]))]
  have hl2 : py.line = px.line := by simpa using hl'
  have hd : ([x, y] : List Str).eraseDups.length = 2 := by
    have hyx : (y == x) = false := by simpa using Ne.symm hxy
    simp [List.eraseDups_cons, hyx, Ne.symm hxy]
  simp [List.filterMap, kx, ky, hl2, Expr.pos, hd]

mutual
theorem sndC (w : WOK W T n Y) (g : Gd W T n c X) : ∀ (a : C) (s : Stmt), chkC T a c s = true → PS X s (tS W.N Y a)
  | .aug i op a, s, h => by
    unfold chkC at h
    split at h
    · simp only [Bool.and_eq_true, decide_eq_true_eq] at h
      obtain ⟨⟨⟨h1, h2⟩, h3⟩, h4⟩ := h
      subst h3
      obtain ⟨b1, b2⟩ := g.st _ h2
      exact s_aug g.nd (by rw [g.hN]; exact h1) b1 b2 (sndE w a c _ h4 X g).e
    · cases h
  | .set i a, s, h => by
    unfold chkC at h
    split at h
    · rename_i x p e pos
      simp only [Bool.and_eq_true, decide_eq_true_eq] at h
      obtain ⟨⟨⟨h1, h2⟩, h3⟩, h4⟩ := h
      obtain ⟨b1, b2⟩ := g.st x h2
      cases hc : isComp e with
      | false => exact s_set g.nd (by rw [g.hN]; exact h1) b1 b2 (sw_none hc _ _ _) (sndE w a c e h3 X g).e
      | true =>
        rw [hc] at h4
        have h4 : swB c x p e = true := by simpa using h4
        cases e with
        | ListComp e' gs scope q =>
          cases a with
          | comp own tg it ifs elt =>
            unfold chkE at h3
            split at h3
            · rename_i e0 e1 t i' fs sc' pos' heq
              cases heq
              simp only [Bool.and_eq_true, decide_eq_true_eq] at h3
              obtain ⟨⟨⟨⟨⟨q1, q2⟩, q3⟩, q4⟩, q5⟩, q6⟩ := h3
              have ok : BlkOk X.N X.env.scope scope own := by rw [g.hN, g.hsc]; exact blkOk_by q1
              unfold swB at h4
              simp only [Bool.and_eq_true, decide_eq_true_eq, Bool.not_eq_true'] at h4
              obtain ⟨⟨r1, r2⟩, r3⟩ := h4
              exact s_setLc g.hK g.calm g.nd (by rw [g.hN]; exact h1) (by rw [g.hsc]; exact r1) (sw_true g.knd (by rw [g.hsc]; exact r1) r2 r3) (sndI w it c _ _ q2 X g) ok (fun s H C cl fp => tg_ok (g.blk ok s H C cl fp) q3) (fun s H C cl fp => (sndEs w ifs _ _ q5 _ (g.blk ok s H C cl fp)).i q4) (fun s H C cl fp => (sndE w elt _ _ q6 _ (g.blk ok s H C cl fp)).e) (no_fold q2 _) (tg_in q3)
            · cases h3
          | _ => simp [chkE] at h3
        | SetComp _ _ _ _ => cases h4
        | DictComp _ _ _ _ _ => cases h4
        | _ => cases hc
    · cases h
  | .setT is a, s, h => by
    unfold chkC at h
    split at h
    · rename_i es k p e pos
      simp only [Bool.and_eq_true, Bool.not_eq_true'] at h
      obtain ⟨⟨⟨h1, h2⟩, h3⟩, h4⟩ := h
      exact s_setT (tg_ok g h1) g.hK (sw_sole h3 _ _) (swapped_none h4) rfl (sndE w a c e h2 X g).e
    · cases h
  | .par i j a b, s, h => by
    unfold chkC at h
    split at h
    · simp only [Bool.and_eq_true, decide_eq_true_eq, Bool.not_eq_true'] at h
      obtain ⟨⟨⟨⟨⟨⟨⟨⟨⟨⟨h1, h2⟩, h3⟩, h4⟩, h5⟩, h6⟩, h7⟩, h8⟩, h9⟩, h10⟩, h11⟩ := h
      refine s_par g.calm g.nd (by rw [g.hN]; exact h1) (by rw [g.hN]; exact h2) h3 (by rw [g.hsc]; exact h5) (by rw [g.hsc]; exact h6) (sndE w a c _ h8 X g).e (sndE w b c _ h9 X g).e (nostar h8 _ _) (nostar h9 _ _) ?_
      have ns : ∀ {a : E} {e : PySem.Expr}, chkE T a c e = true → isStarE e = false := fun {a e} h => by
        cases e <;> first
          | rfl
          | (cases a <;> simp [chkE] at h)
      exact swapped_par g.knd (by rw [g.hsc]; exact h5) (by rw [g.hsc]; exact h6) h7 h4 (ns h8) (ns h9) h10 h11
    · cases h
  | .setIx o i a, s, h => by
    unfold chkC at h
    split at h
    · simp only [Bool.and_eq_true, Bool.not_eq_true'] at h
      obtain ⟨⟨⟨h1, h2⟩, h3⟩, h4⟩ := h
      have hu := g.hu
      exact s_setIx (by omega) (sndE w o c _ h2 X g).e (sndE w i c _ h3 X g).e (sndE w a c _ h1 X g).e (asg_sub h3) (sw_sub h4 _ _) swapped_sub rfl
    · cases h
  | .ex a, s, h => by
    unfold chkC at h
    split at h
    · simp only [Bool.and_eq_true, Bool.not_eq_true'] at h
      exact s_ex (sw_none h.2 _ _ _) (sndE w a c _ h.1 X g).e
    · cases h
  | .ret a, s, h => by
    unfold chkC at h
    split at h
    · exact s_ret (sndE w a c _ h X g).e
    · cases h
  | .retN, s, h => by
    unfold chkC at h
    split at h
    · exact s_retN
    · cases h
  | .pass, s, h => by
    unfold chkC at h
    split at h
    · exact s_pass
    · cases h
  | .brk, s, h => by
    unfold chkC at h
    split at h
    · exact s_brk
    · cases h
  | .cnt, s, h => by
    unfold chkC at h
    split at h
    · exact s_cnt
    · cases h
  | .ifS t a b, s, h => by
    unfold chkC at h
    split at h
    · simp only [Bool.and_eq_true] at h
      exact s_if (sndE w t c _ h.1.1 X g).t (sndCs w g a _ h.1.2) (sndCs w g b _ h.2)
    · cases h
  | .forS tg it b, s, h => by
    unfold chkC at h
    split at h
    · simp only [Bool.and_eq_true] at h
      have po : PassesOwn (model X.prog X.w) X.A X.env X.xe := fun e s z => absurd z (g.po e s)
      exact s_for g.hK po g.calm (sndI w it c _ _ h.1.1 X g) (tg_ok g h.1.2) (sndCs w g b _ h.2) (no_fold h.1.1 _)
    · cases h
  | .whl t b, s, h => by
    unfold chkC at h
    split at h
    · simp only [Bool.and_eq_true] at h
      have po : PassesOwn (model X.prog X.w) X.A X.env X.xe := fun e s z => absurd z (g.po e s)
      exact s_whl po (sndE w t c _ h.1 X g).t (sndCs w g b _ h.2)
    · cases h
  | .setAt _ _ _, s, h => by cases h
  | .doc, s, h => by cases h
theorem sndCs (w : WOK W T n Y) (g : Gd W T n c X) : ∀ (as : Cs) (l : List Stmt), chkCs T as c l = true → PSs X l (tSs W.N Y as)
  | .nil, l, h => by
    unfold chkCs at h
    split at h
    · exact ss_nil
    · cases h
  | .cons a as, l, h => by
    unfold chkCs at h
    split at h
    · rw [Bool.and_eq_true] at h
      exact ss_cons (sndC w g a _ h.1) (sndCs w g as _ h.2)
    · cases h
end
end
end Mi

namespace Mi
open PySem L2 PySem.Spec PyProof.Rows RZ

/-- the names of a text -/
structure T0 where
  fns : List Str
  gv : List Str
  bl : List Str
def T0.tab (t : T0) (N : List Str) : Tab := ⟨N, t.fns, t.gv, t.bl⟩
def scopeB (N ps : List Str) (sc : Scope) : Bool :=
  decide (sc.kind = .function) && decide (sc.isCoroutine = false) && decide (sc.isGenerator = false) && decide N.Nodup && decide (N.take ps.length = ps) && ps.all (fun x => stB sc x) && sc.names.all (fun y => decide (y.2 ≠ .free))
theorem scope_ok {N ps : List Str} {sc : Scope} (h : scopeB N ps sc = true) : FnScope N ps sc := by
  unfold scopeB at h
  simp only [Bool.and_eq_true, decide_eq_true_eq, List.all_eq_true] at h
  obtain ⟨⟨⟨⟨⟨⟨h1, h2⟩, h3⟩, h4⟩, h5⟩, h6⟩, h7⟩ := h
  refine ⟨h1, h2, h3, h4, h5, fun x hx => ?_, h7⟩
  have := h6 x hx
  unfold stB at this
  split at this
  · rename_i e; exact .inl e
  · rename_i e; exact .inr e
  · cases this
def fnB (t : T0) (fi : FI) (st : Stmt) : Bool := scopeB fi.N fi.ps (defScope st) && chkCs (t.tab fi.N) fi.b (scF (defScope st)) (defBody st)
structure FnAt (K : PySem.W.Frag) (mg : Str → Option Value) (t : T0) (fi : FI) : Prop where
  ex : ∃ (f : Addr) (fd : FuncData) (st : Stmt), mg fi.nm = some (.ref f) ∧ Fun K fi.nm fi.nm st f fd ∧ Binds K fd fi.ps [] ∧ fnB t fi st = true

theorem env_start {K : PySem.W.Frag} {β : Bt} {H : Hp} {ds : List D} {vs : List V} (r : VRs K β H ds vs) (n : Nat) : EnvR K β H (ds.map some ++ List.replicate (n - ds.length) none) (vs.map some ++ List.replicate (n - vs.length) none) :=
  ⟨by simp [r.length], fun i d h => by
    by_cases hi : i < ds.length
    · rw [List.getElem?_append_left (by simpa using hi), List.getElem?_map] at h
      obtain ⟨d', e1, e2⟩ := Option.map_eq_some_iff.mp h
      cases e2
      obtain ⟨v, e3, r3⟩ := r.get e1
      have hi' : i < vs.length := by rw [← r.length]; exact hi
      exact ⟨v, by rw [List.getElem?_append_left (by simpa using hi'), List.getElem?_map, e3]; rfl, r3⟩
    · rw [List.getElem?_append_right (by simpa using hi), List.getElem?_replicate] at h
      split at h
      · cases h
      · cases h⟩
theorem step_ok {W : Wd} {t : T0} {n : Nat} {Y : Fs} {fi : FI} {f : Addr} {fd : FuncData} {st : Stmt} (F : Fun W.N.K fi.nm fi.nm st f fd) (hB : fnB t fi st = true) (w : WOK W (t.tab fi.N) n Y) :
    FnOk W.P W.w W.N.K W.mg W.base CX0 (n + 1) f fd fi.ps (spF W.N (runF Y fi)) := by
  unfold fnB at hB
  rw [Bool.and_eq_true] at hB
  have S := scope_ok hB.1
  refine F.ok S (fun vs H Q E h => ?_) (fun cdv A outer s H vs Q E hr h => ?_)
  · obtain ⟨β, S', ds, sm, r, w'⟩ := h
    unfold runF at w'
    split at w'
    · rename_i hl
      rw [← r.length]; exact hl
    · exact w'.elim
  · obtain ⟨β, S', ds, sm, r, w'⟩ := h
    unfold runF at w'
    split at w'
    · rename_i hl
      refine ⟨tSs W.N Y fi.b, sndCs w ?_ fi.b _ hB.2, ?_⟩
      · exact {
          hP := rfl, hw := rfl, hK := rfl, hm := rfl, hb := rfl, calm := rfl
          room := hr
          nd := S.nd
          hN := rfl
          hsc := rfl
          knd := S.kind
          st := fun x hx => by
            have hx : stB (defScope st) x = true := hx
            refine ⟨?_, .inl rfl⟩
            unfold stB at hx
            split at hx
            · rename_i e; exact .inl e
            · rename_i e; exact .inr e
            · cases hx
          po := fun _ _ z => z }
      · refine ⟨β, _, S', sm, env_start r fi.N.length, Want.bind (R' := RD W.N) w' fun fl S1 _ β1 H1 tt x1 sm1 rr w1 => ?_⟩
        cases fl with
        | rt d =>
          cases tt with
          | rt v => exact Want.here (R := RD W.N) (a := d) (S := S1) w1 sm1 rr
          | _ => exact rr.elim
        | nx env =>
          cases tt with
          | nx σ => exact Want.here (R := RD W.N) (a := .non) (S := S1) w1 sm1 .non
          | _ => exact rr.elim
        | bk env => exact w1.elim
        | ct env => exact w1.elim
    · exact w'.elim

/-- the facts of a text's top -/
structure TopOK (K : PySem.W.Frag) (mg : Str → Option Value) (t : T0) (G : Gi) : Prop where
  fns : ∀ (i : Nat) (fi : FI), G.fns[i]? = some fi → FnAt K mg t fi
  nms : t.fns = G.fns.map (·.nm)
  gv : ∀ (g : Nat) (x : Str), t.gv[g]? = some x → ∃ u v, mg x = some u ∧ RelV v u ∧ ∀ β H, VR K β H (G.gv g) v
  bl : ∀ x ∈ t.bl, mg x = none
theorem all_fns {W : Wd} {t : T0} {G : Gi} (O : TopOK W.N.K W.mg t G) : ∀ (n : Nat) (i : Nat) (fi : FI), G.fns[i]? = some fi → ∀ (f : Addr) (fd : FuncData) (st : Stmt), Fun W.N.K fi.nm fi.nm st f fd → fnB t fi st = true → FnOk W.P W.w W.N.K W.mg W.base CX0 n f fd fi.ps (spF W.N (fnN G n i)) := by
  have mk : ∀ (n : Nat) (F : Nat → List D → Sto → Out D) (M : Nat → List D → Sto → Out D),
      (∀ (i : Nat) (fi : FI), G.fns[i]? = some fi → ∀ (f : Addr) (fd : FuncData) (st : Stmt), Fun W.N.K fi.nm fi.nm st f fd → fnB t fi st = true → FnOk W.P W.w W.N.K W.mg W.base CX0 n f fd fi.ps (spF W.N (F i))) →
      ∀ N, WOK W (t.tab N) n ⟨F, M, G.gv⟩ := fun n F M h N => {
    fn := fun i x hx => by
      have hx : t.fns[i]? = some x := hx
      rw [O.nms, List.getElem?_map] at hx
      obtain ⟨fi, e1, e2⟩ := Option.map_eq_some_iff.mp hx
      subst e2
      obtain ⟨f, fd, st, h1, h2, h3, h4⟩ := (O.fns i fi e1).ex
      exact ⟨f, fd, fi.ps, h1, h2.kp, h i fi e1 f fd st h2 h4, h3⟩
    gv := O.gv
    bl := O.bl }
  have no : ∀ (i : Nat) (fi : FI), G.fns[i]? = some fi → ∀ (f : Addr) (fd : FuncData) (st : Stmt), Fun W.N.K fi.nm fi.nm st f fd → fnB t fi st = true → FnOk W.P W.w W.N.K W.mg W.base CX0 0 f fd fi.ps (spF W.N fun _ _ => .no) := fun i fi _ f fd st _ _ =>
    ⟨fun vs H Q E ⟨_, _, _, _, _, w⟩ => w.elim, fun A outer s H args us vs Q E _ _ _ _ ⟨_, _, _, _, _, w⟩ => w.elim⟩
  intro n
  induction n with
  | zero => exact no
  | succ n ih =>
    intro i fi e f fd st F hB
    cases n with
    | zero =>
      have h := step_ok F hB (mk 0 (fun _ _ _ => .no) (fun _ _ _ => .no) no fi.N)
      refine h.imp fun vs H Q E hs => ?_
      obtain ⟨β, S, ds, sm, r, w⟩ := hs
      refine ⟨β, S, ds, sm, r, ?_⟩
      unfold fnN at w
      rw [e] at w
      exact w
    | succ n =>
      have h := step_ok F hB (mk (n + 1) (fnN G (n + 1)) (fnN G n) ih fi.N)
      refine h.imp fun vs H Q E hs => ?_
      obtain ⟨β, S, ds, sm, r, w⟩ := hs
      refine ⟨β, S, ds, sm, r, ?_⟩
      unfold fnN at w
      rw [e] at w
      exact w

/-- the law's promise -/
def spLaw (K : PySem.W.Frag) : Sp := fun vs H Q _ => ∃ (a : Addr) (ns : List Int), vs = [.ref a] ∧ Only H ∧ SqL K H a (ns.map V.int) ∧ ns.length ≤ 63 ∧ ∀ H', Q (.bl true) H'
theorem ints_vr {K : PySem.W.Frag} {β : Bt} {H : Hp} : ∀ ns : List Int, VRs K β H (ns.map D.int) (ns.map V.int)
  | [] => .nil
  | n :: ns => .cons (.int n) (ints_vr ns)
theorem law_sp {N : Nm} {F : List D → Sto → Out D} (h : ∀ ns : List Int, ns.length ≤ 63 → ∃ S, F [.rol (ns.map D.int)] [] = .ok (.bl true) S) (vs : List V) (H : Hp) (Q : VK) (E : XK) (q : spLaw N.K vs H Q E) : spF N F vs H Q E := by
  obtain ⟨a, ns, rfl, hO, hS, hl, k⟩ := q
  obtain ⟨S, e⟩ := h ns hl
  have rol : ROL N.K H a (ns.map V.int) := by
    rcases hS with (hS | hS) | hS
    · rcases hO a with z | ⟨o, xs, z⟩ <;> rw [hS] at z <;> cases z
    · exact .inl hS
    · exact .inr hS
  refine ⟨fun _ => none, [], [.rol (ns.map D.int)], ⟨fun n o h => (by simp at h), fun n a h => (by cases h), fun m n a h => (by cases h)⟩, .cons (.rol rol (ints_vr ns)) .nil, ?_⟩
  rw [e]
  intro β' H' t _ _ r
  cases r
  exact k H'
theorem law_fn {W : Wd} {t : T0} {G : Gi} {n i : Nat} {fi : FI} (O : TopOK W.N.K W.mg t G) (e : G.fns[i]? = some fi) {f : Addr} {fd : FuncData} {st : Stmt} (F : Fun W.N.K fi.nm fi.nm st f fd) (hB : fnB t fi st = true)
    (h : ∀ ns : List Int, ns.length ≤ 63 → ∃ S, fnN G n i [.rol (ns.map D.int)] [] = .ok (.bl true) S) : FnOk W.P W.w W.N.K W.mg W.base CX0 n f fd fi.ps (spLaw W.N.K) :=
  (all_fns O n i fi e f fd st F hB).imp (law_sp h)
theorem walk {l : PySem.W.OpenLaw} {n : Nat} {x : Str} {q : Program} {loose : List Str} {XP : (Str → Option Value) → Heap → Prop} {YP : World → Heap → Prop} {d : DefRec} {K : Params → PySem.W.Frag} (hn : l.most = some 63) (hdf : d.params.defaults = [])
    (hr : Room n callerA)
    (hY : ∀ (w : World) (h : Heap), YP w h → (K w.params).In h)
    (F : ∀ (w : World) (mg : Str → Option Value) (fa : Addr) (h : Heap), (K w.params).In h → h.Ns mainGlobals mg → mg d.name = some (.ref fa) →
      ∃ fd : FuncData, (∀ (s : Shared) (u : Value), BindsTo s fd ⟨[u], []⟩ [(x, u)]) ∧ ∀ base : Heap, (K w.params).In base → base.Ns mainGlobals mg → FnOk l.prog w (K w.params) mg base CX0 n fa fd [x] (spLaw (K w.params))) :
    PySem.W.WalkO q loose XP YP l.row.toRowW d [] (fun f vs => PySem.call f vs) :=
  L2.walk_of (n := 63) (k := n) (x := x) (CX := fun _ => CX0) (sp := fun w => spLaw (K w.params)) hn (by decide) hdf hr hY F (fun _ _ a ns hl hO hS => ⟨a, ns, rfl, hO, hS, hl, fun _ => rfl⟩) fun _ _ _ _ _ z => z
end Mi

/-! The evaluator's equations, one for each form, for proofs that run it by hand. -/
namespace Mi
open PySem L2
section
variable {Y : Fs} {env : Env} {S : Sto}
@[simp] theorem bind_ok {α β : Type} {a : α} {f : α → Sto → Out β} : (Out.ok a S).bind f = f a S := rfl
@[simp] theorem bind_exc {α β : Type} {c : Nat} {fs : List (Nat × D)} {f : α → Sto → Out β} : (Out.exc c fs S).bind f = .exc c fs S := rfl
@[simp] theorem bind_no {α β : Type} {f : α → Sto → Out β} : (Out.no : Out α).bind f = .no := rfl
theorem bind_bind {α β γ : Type} (o : Out α) (f : α → Sto → Out β) (g : β → Sto → Out γ) : (o.bind f).bind g = o.bind fun a s => (f a s).bind g := by cases o <;> rfl
@[simp] theorem ev_var {i : Nat} {d : D} (h : env[i]? = some (some d)) : ev Y (.var i) env S = .ok d S := by simp only [ev, h]
@[simp] theorem ev_con {c : D} : ev Y (.con c) env S = .ok c S := by simp only [ev]
@[simp] theorem ev_glob {g : Nat} : ev Y (.glob g) env S = .ok (Y.gv g) S := by simp only [ev]
@[simp] theorem ev_bin {op : Operator} {a b : E} : ev Y (.bin op a b) env S = (ev Y a env S).bind fun x S1 => (ev Y b env S1).bind fun y S2 => binD op x y S2 := by simp only [ev]
@[simp] theorem ev_una {op : UnaryOp} {a : E} : ev Y (.una op a) env S = (ev Y a env S).bind fun x S1 => unD op x S1 := by simp only [ev]
@[simp] theorem ev_cmp {op : CmpOp} {a b : E} : ev Y (.cmp op a b) env S = (ev Y a env S).bind fun x S1 => (ev Y b env S1).bind fun y S2 => obl (cmpD op x y S2) S2 := by simp only [ev]
@[simp] theorem ev_and {es : Es} : ev Y (.and_ es) env S = evAnd Y es env S := by simp only [ev]
@[simp] theorem ev_or {es : Es} : ev Y (.or_ es) env S = evOr Y es env S := by simp only [ev]
@[simp] theorem ev_not {a : E} : ev Y (.not_ a) env S = (ev Y a env S).bind fun x S1 => obl ((truthD S1 x).map (!·)) S1 := by simp only [ev]
@[simp] theorem ev_ite {c a b : E} : ev Y (.ite c a b) env S = (ev Y c env S).bind fun x S1 => match truthD S1 x with
    | some true => ev Y a env S1
    | some false => ev Y b env S1
    | none => .no := by rw [ev] <;> rfl
@[simp] theorem ev_tup {es : Es} : ev Y (.tup es) env S = (evs Y es env S).bind fun xs S1 => if xs.length ≤ lim then .ok (.tup xs) S1 else .no := by simp only [ev]
@[simp] theorem ev_lst {es : Es} : ev Y (.lst es) env S = (evs Y es env S).bind fun xs S1 => if xs.length ≤ lim then new S1 (.lst xs) else .no := by simp only [ev]
@[simp] theorem ev_idx {a i : E} : ev Y (.idx a i) env S = (ev Y a env S).bind fun x S1 => (ev Y i env S1).bind fun y S2 => idxD x y S2 := by simp only [ev]
@[simp] theorem ev_call {f : Nat} {es : Es} : ev Y (.call f es) env S = (evs Y es env S).bind fun xs S1 => Y.f f xs S1 := by simp only [ev]
@[simp] theorem ev_bm {m : BM} {a : E} {es : Es} : ev Y (.bm m a es) env S = (ev Y a env S).bind fun x S1 => if bmK m x S1 = true then (evs Y es env S1).bind fun xs S2 => bmD m x xs S2 else .no := by simp only [ev]
@[simp] theorem ev_bi {f : BI} {es : Es} : ev Y (.bi f es) env S = (evs Y es env S).bind fun xs S1 => biD f xs S1 := by simp only [ev]
@[simp] theorem ev_isi {a : E} {o : Bool} {ts : List Ty} : ev Y (.isi a o ts) env S = (ev Y a env S).bind fun x S1 => obl (isTys S1 x ts) S1 := by simp only [ev]
@[simp] theorem ev_dsp {es : Es} : ev Y (.dsp es) env S = (evs Y es env S).bind fun ds S1 => match pairsD ds with
    | some kvs => if kvs.length ≤ 15 then new S1 (.dK (mergeD [] kvs)) else .no
    | none => .no := by rw [ev] <;> rfl
@[simp] theorem ev_join {a e : E} : ev Y (.join a e) env S = (ev Y a env S).bind fun x S1 => match x with
    | .str s => (ev Y e env S1).bind fun y S2 => joinD (.str s) y S2
    | _ => .no := by rw [ev] <;> rfl
@[simp] theorem ev_lrev {a : E} : ev Y (.lrev a) env S = (ev Y a env S).bind fun x S1 => match seqAt S1 x with
    | some xs => new S1 (.lst xs.reverse)
    | none => .no := by rw [ev] <;> rfl
@[simp] theorem ev_dnew {t : Bool} : ev Y (.dnew t) env S = new S (if t then .dT [] else .dK []) := by rw [ev]
@[simp] theorem ev_slc00 {a lo hi : E} : ev Y (.slc a false false lo hi) env S = (ev Y a env S).bind fun x S1 => slcD x none none S1 := by rw [ev]
@[simp] theorem ev_slc10 {a lo hi : E} : ev Y (.slc a true false lo hi) env S = (ev Y a env S).bind fun x S1 => (ev Y lo env S1).bind fun y S2 => match y with
    | .int i => slcD x (some i) none S2
    | _ => .no := by rw [ev] <;> rfl
@[simp] theorem ev_slc01 {a lo hi : E} : ev Y (.slc a false true lo hi) env S = (ev Y a env S).bind fun x S1 => (ev Y hi env S1).bind fun y S2 => match y with
    | .int i => slcD x none (some i) S2
    | _ => .no := by rw [ev] <;> rfl
@[simp] theorem ev_slc11 {a lo hi : E} : ev Y (.slc a true true lo hi) env S = (ev Y a env S).bind fun x S1 => (ev Y lo env S1).bind fun y S2 => (ev Y hi env S2).bind fun z S3 => match y, z with
    | .int i, .int j => slcD x (some i) (some j) S3
    | _, _ => .no := by rw [ev] <;> rfl
@[simp] theorem ev_chain {op op' : CmpOp} {a b c : E} : ev Y (.chain op op' a b c) env S = (ev Y a env S).bind fun x S1 => (ev Y b env S1).bind fun y S2 => match cmpD op x y S2 with
    | some true => (ev Y c env S2).bind fun z S3 => obl (cmpD op' y z S3) S3
    | some false => .ok (.bl false) S2
    | none => .no := by rw [ev] <;> rfl
theorem ev_comp {own : List (Str × Nat)} {tg : Tg} {it : I} {ifs : Es} {elt : E} : ev Y (.comp own tg it ifs elt) env S = (evI Y it env S).bind fun J S1 =>
      (compN (itNext J) (asg tg) (fun e s => evIfs Y ifs e s) (fun e s => ev Y elt e s) (wipeD env (own.map (·.2))) (lim + 2) 0 [] S1).bind fun xs S2 => new S2 (.lst xs) := by rw [ev]
@[simp] theorem evIfs_nil : evIfs Y .nil env S = .ok true S := by rw [evIfs]
@[simp] theorem evIfs_cons {e : E} {es : Es} : evIfs Y (.cons e es) env S = (ev Y e env S).bind fun x S1 => match truthD S1 x with
    | some b => .ok b S1
    | none => .no := by rw [evIfs] <;> rfl
@[simp] theorem evI_val {e : E} : evI Y (.val e) env S = (ev Y e env S).bind fun x S1 => match x with
    | .tup xs => .ok (.tup xs) S1
    | .str x => .ok (.chars x) S1
    | x => match seqAt S1 x with
      | some _ => .ok (.seq x) S1
      | none => .no := by rw [evI] <;> rfl
@[simp] theorem evs_nil : evs Y .nil env S = .ok [] S := by simp only [evs]
@[simp] theorem evs_cons {e : E} {es : Es} : evs Y (.cons e es) env S = (ev Y e env S).bind fun x S1 => (evs Y es env S1).bind fun xs S2 => .ok (x :: xs) S2 := by simp only [evs]
@[simp] theorem evAnd_one {e : E} : evAnd Y (.cons e .nil) env S = ev Y e env S := by simp only [evAnd]
@[simp] theorem evAnd_cons {e e' : E} {es : Es} : evAnd Y (.cons e (.cons e' es)) env S = (ev Y e env S).bind fun x S1 => match truthD S1 x with
      | some true => evAnd Y (.cons e' es) env S1
      | some false => .ok x S1
      | none => .no := by rw [evAnd] <;> rfl
@[simp] theorem evOr_one {e : E} : evOr Y (.cons e .nil) env S = ev Y e env S := by simp only [evOr]
@[simp] theorem evOr_cons {e e' : E} {es : Es} : evOr Y (.cons e (.cons e' es)) env S = (ev Y e env S).bind fun x S1 => match truthD S1 x with
      | some true => .ok x S1
      | some false => evOr Y (.cons e' es) env S1
      | none => .no := by rw [evOr] <;> rfl
@[simp] theorem evI_rng1 {e : E} : evI Y (.rng1 e) env S = (ev Y e env S).bind fun x S1 => match x with
    | .int j => if -(2 ^ 62) ≤ j ∧ j < 2 ^ 62 then .ok (.rng 0 j.toNat) S1 else .no
    | _ => .no := by rw [evI] <;> rfl
@[simp] theorem exec_set {i : Nat} {e : E} : exec Y (.set i e) env S = (ev Y e env S).bind fun x S1 => .ok (.nx (env.set i (some x))) S1 := by simp only [exec]
@[simp] theorem exec_par {i j : Nat} {a b : E} : exec Y (.par i j a b) env S = (ev Y a env S).bind fun x S1 => (ev Y b env S1).bind fun y S2 => .ok (.nx ((env.set i (some x)).set j (some y))) S2 := by simp only [exec]
@[simp] theorem exec_ret {e : E} : exec Y (.ret e) env S = (ev Y e env S).bind fun x S1 => .ok (.rt x) S1 := by simp only [exec]
@[simp] theorem exec_retN : exec Y .retN env S = .ok (.rt .non) S := by simp only [exec]
@[simp] theorem exec_ex {e : E} : exec Y (.ex e) env S = (ev Y e env S).bind fun _ S1 => .ok (.nx env) S1 := by simp only [exec]
@[simp] theorem exec_if {c : E} {a b : Cs} : exec Y (.ifS c a b) env S = (evT Y c env S).bind fun t S1 => match t with
    | true => execs Y a env S1
    | false => execs Y b env S1 := by rw [exec] <;> rfl
theorem exec_for {tg : Tg} {it : I} {b : Cs} : exec Y (.forS tg it b) env S = (evI Y it env S).bind fun J S1 => forN (itNext J) (asg tg) (fun e s => execs Y b e s) (lim + 2) 0 env S1 := by simp only [exec]
@[simp] theorem execs_nil : execs Y .nil env S = .ok (.nx env) S := by simp only [execs]
@[simp] theorem execs_cons {c : C} {cs : Cs} : execs Y (.cons c cs) env S = (exec Y c env S).bind fun fl S1 => match fl with
    | .nx env1 => execs Y cs env1 S1
    | fl => .ok fl S1 := by rw [execs] <;> rfl
end
/-! the operations -/
section
variable {S : Sto}
theorem small_mod {a b : Int} (h0 : 0 < b) (h1 : b < 18446744073709551616) : small64 (a % b) = true := by
  have := Int.emod_nonneg a (Int.ne_of_gt h0)
  have := Int.emod_lt_of_pos a h0
  simp only [small64, decide_eq_true_eq]; omega
theorem small_lit {i : Int} (h0 : -18446744073709551616 < i) (h1 : i < 18446744073709551616) : small64 i = true := by
  simp only [small64, decide_eq_true_eq]; omega
@[simp] theorem binD_addI {i j : Int} : binD .Add (.int i) (.int j) S = .ok (.int (i + j)) S := rfl
@[simp] theorem binD_sub {i j : Int} : binD .Sub (.int i) (.int j) S = .ok (.int (i - j)) S := rfl
theorem binD_mulL {i j : Int} (h : small64 i = true) : binD .Mult (.int i) (.int j) S = .ok (.int (i * j)) S := by
  show (if (small64 i || small64 j) = true then _ else _) = _
  rw [h, Bool.true_or, if_pos rfl]
theorem binD_mulR {i j : Int} (h : small64 j = true) : binD .Mult (.int i) (.int j) S = .ok (.int (i * j)) S := by
  show (if (small64 i || small64 j) = true then _ else _) = _
  rw [h, Bool.or_true, if_pos rfl]
theorem binD_mod {i j : Int} (h : 0 < j) : binD .Mod (.int i) (.int j) S = .ok (.int (i % j)) S := if_pos h
theorem binD_fdiv {i j : Int} (h : 0 < j) (h1 : j < 18446744073709551616) : binD .FloorDiv (.int i) (.int j) S = .ok (.int (i / j)) S := if_pos ⟨h, h1⟩
theorem binD_repE {xs : List D} {k : Int} : binD .Mult (.tup xs) (.int k) S = if k = 1 then .ok (.tup xs) S else if 1 ≤ xs.length ∧ 2 ≤ k ∧ k ≤ 1000 ∧ xs.length ≤ 1000 then .ok (.tup (List.replicate k.toNat xs).flatten) S else .no := rfl
theorem binD_repT1 {xs : List D} : binD .Mult (.tup xs) (.int 1) S = .ok (.tup xs) S := by rw [binD_repE, if_pos rfl]
theorem binD_repT {xs : List D} {k : Int} (h1 : 1 ≤ xs.length) (h2 : 2 ≤ k) (h3 : k ≤ 1000) (h4 : xs.length ≤ 1000) : binD .Mult (.tup xs) (.int k) S = .ok (.tup (List.replicate k.toNat xs).flatten) S := by
  rw [binD_repE, if_neg (by omega), if_pos ⟨h1, h2, h3, h4⟩]
@[simp] theorem binD_addR {m n : Nat} : binD .Add (.ref m) (.ref n) S = match lstAt S m, lstAt S n with
    | some xs, some ys => if xs.length + ys.length ≤ lim then new S (.lst (xs ++ ys)) else .no
    | _, _ => .no := rfl
@[simp] theorem binD_addT {xs ys : List D} : binD .Add (.tup xs) (.tup ys) S = if xs.length + ys.length ≤ lim then .ok (.tup (xs ++ ys)) S else .no := rfl
@[simp] theorem unD_int {i : Int} : unD .USub (.int i) S = .ok (.int (-i)) S := rfl
@[simp] theorem obl_some {b : Bool} : obl (some b) S = .ok (.bl b) S := rfl
@[simp] theorem obl_none : obl none S = .no := rfl
@[simp] theorem cmpD_eq {a b : D} : cmpD .Eq a b S = eqD S a b := rfl
@[simp] theorem cmpD_ne {a b : D} : cmpD .NotEq a b S = (eqD S a b).map (!·) := rfl
@[simp] theorem cmpD_in {a b : D} : cmpD .In a b S = inD S a b := rfl
@[simp] theorem cmpD_notin {a b : D} : cmpD .NotIn a b S = (inD S a b).map (!·) := rfl
@[simp] theorem cmpD_is {a : D} : cmpD .Is a .non S = some a.isNon := rfl
@[simp] theorem cmpD_isnot {a : D} : cmpD .IsNot a .non S = some (!a.isNon) := rfl
@[simp] theorem cmpD_lt {i j : Int} : cmpD .Lt (.int i) (.int j) S = some (decide (i < j)) := rfl
@[simp] theorem cmpD_le {i j : Int} : cmpD .LtE (.int i) (.int j) S = some (decide (i ≤ j)) := rfl
@[simp] theorem cmpD_gt {i j : Int} : cmpD .Gt (.int i) (.int j) S = some (decide (j < i)) := rfl
@[simp] theorem cmpD_ge {i j : Int} : cmpD .GtE (.int i) (.int j) S = some (decide (j ≤ i)) := rfl
@[simp] theorem inD_tup {a : D} {xs : List D} : inD S a (.tup xs) = anyEq S a xs := rfl
@[simp] theorem inD_rol {a : D} {xs : List D} : inD S a (.rol xs) = anyEq S a xs := rfl
@[simp] theorem inD_ref {a : D} {n : Nat} : inD S a (.ref n) = match S[n]? with
    | some (.lst xs) => anyEq S a xs
    | some (.dK kvs) => match a.key with
      | some k => some (kvs.any fun kv => decide (kv.1 = k))
      | none => none
    | some (.dT _) => none
    | _ => none := rfl
@[simp] theorem idxD_tup {xs : List D} {k : Int} : idxD (.tup xs) (.int k) S = oD (atI xs k) S := rfl
@[simp] theorem idxD_rol {xs : List D} {k : Int} : idxD (.rol xs) (.int k) S = oD (atI xs k) S := rfl
@[simp] theorem idxD_ref {n : Nat} {i : D} : idxD (.ref n) i S = match S[n]? with
    | some (.lst xs) => (match i with
      | .int k => oD (atI xs k) S
      | _ => .no)
    | some (.dK kvs) => (match i.key with
      | some k => oD (getK kvs k) S
      | none => .no)
    | _ => .no := rfl
@[simp] theorem oD_some_ {d : D} : oD (some d) S = .ok d S := rfl
@[simp] theorem oD_none_ : oD none S = .no := rfl
@[simp] theorem new_eq {o : MO} : new S o = .ok (.ref S.length) (S ++ [o]) := rfl
@[simp] theorem slcD_tup {xs : List D} {lo hi : Option Int} : slcD (.tup xs) lo hi S = .ok (.tup (cutD xs lo hi)) S := rfl
@[simp] theorem slcD_str {z : Str} {lo hi : Option Int} : slcD (.str z) lo hi S = if z.length ≤ lim then .ok (.str (cutS z lo hi)) S else .no := rfl
@[simp] theorem slcD_rol {xs : List D} {lo hi : Option Int} : slcD (.rol xs) lo hi S = new S (.lst (cutD xs lo hi)) := rfl
@[simp] theorem cmpD_is_bl {a b : Bool} : cmpD .Is (.bl a) (.bl b) S = some (decide (a = b)) := rfl
@[simp] theorem cmpD_isnot_bl {a b : Bool} : cmpD .IsNot (.bl a) (.bl b) S = some (!decide (a = b)) := rfl
@[simp] theorem augD_add {i j : Int} : augD .Add (.int i) (.int j) S = .ok (.int (i + j)) S := rfl
@[simp] theorem augD_sub {i j : Int} : augD .Sub (.int i) (.int j) S = .ok (.int (i - j)) S := rfl
@[simp] theorem lstAt_last {xs : List D} : lstAt (S ++ [.lst xs]) S.length = some xs := by simp [lstAt]
@[simp] theorem evT_eq {Y : Fs} {e : E} {env : Env} : evT Y e env S = (ev Y e env S).bind fun x S1 => match truthD S1 x with
  | some b => .ok b S1
  | none => .no := rfl
@[simp] theorem truthD_non : truthD S .non = some false := rfl
@[simp] theorem truthD_bl {b : Bool} : truthD S (.bl b) = some b := rfl
@[simp] theorem truthD_int {i : Int} : truthD S (.int i) = some (i != 0) := rfl
@[simp] theorem truthD_tup {xs : List D} : truthD S (.tup xs) = some (!xs.isEmpty) := rfl
@[simp] theorem isNon_non : D.isNon .non = true := rfl
@[simp] theorem isNon_bl {b : Bool} : D.isNon (.bl b) = false := rfl
@[simp] theorem isNon_int {b : Int} : D.isNon (.int b) = false := rfl
@[simp] theorem isNon_str {b : Str} : D.isNon (.str b) = false := rfl
@[simp] theorem isNon_tup {b : List D} : D.isNon (.tup b) = false := rfl
@[simp] theorem isNon_ref {b : Nat} : D.isNon (.ref b) = false := rfl
theorem bi_len {d : D} {n : Nat} (h : lenD S d = some n) : biD .len [d] S = .ok (.int n) S := by simp only [biD, h]
@[simp] theorem bi_min {i j : Int} : biD .min2 [.int i, .int j] S = .ok (.int (if j < i then j else i)) S := rfl
@[simp] theorem bi_max {i j : Int} : biD .max2 [.int i, .int j] S = .ok (.int (if j > i then j else i)) S := rfl
@[simp] theorem lenD_rol {xs : List D} : lenD S (.rol xs) = some xs.length := rfl
@[simp] theorem lenD_tup {xs : List D} : lenD S (.tup xs) = some xs.length := rfl
@[simp] theorem lenD_ref {n : Nat} : lenD S (.ref n) = match S[n]? with
    | some (.lst xs) => some xs.length
    | _ => none := rfl
@[simp] theorem truthD_ref {n : Nat} : truthD S (.ref n) = match S[n]? with
    | some (.lst xs) => some (!xs.isEmpty)
    | some (.dK kvs) => some (!kvs.isEmpty)
    | _ => none := rfl
@[simp] theorem bmK_ref {m : BM} {n : Nat} : bmK m (.ref n) S = match S[n]? with
    | some (.lst _) => (match m with
      | .get1 => false
      | .get2 => false
      | .update => false
      | _ => true)
    | some (.dK _) => (match m with
      | .get1 => true
      | .get2 => true
      | .update => true
      | _ => false)
    | _ => false := rfl
@[simp] theorem bm_append {n : Nat} {d : D} : bmD .append (.ref n) [d] S = match S[n]? with
    | some (.lst xs) => if xs.length < lim then .ok .non (S.set n (.lst (xs ++ [d]))) else .no
    | _ => .no := by simp only [bmD]; split <;> simp_all
@[simp] theorem bm_clear {n : Nat} : bmD .clear (.ref n) [] S = match S[n]? with
    | some (.lst xs) => .ok .non (S.set n (.lst []))
    | _ => .no := by
  unfold bmD
  simp only
  cases S[n]? with
  | none => rfl
  | some o => cases o <;> rfl
@[simp] theorem bm_extT {n : Nat} {ys : List D} : bmD .extend (.ref n) [.tup ys] S = match S[n]? with
    | some (.lst xs) => if xs.length + ys.length ≤ lim then .ok .non (S.set n (.lst (xs ++ ys))) else .no
    | _ => .no := by
  unfold bmD
  simp only
  cases S[n]? with
  | none => rfl
  | some o => cases o <;> rfl
@[simp] theorem bm_extR {n k : Nat} : bmD .extend (.ref n) [.ref k] S = match S[n]? with
    | some (.lst xs) => (match lstAt S k with
        | some ys => if xs.length + ys.length ≤ lim then .ok .non (S.set n (.lst (xs ++ ys))) else .no
        | none => .no)
    | _ => .no := by
  unfold bmD
  simp only
  cases S[n]? with
  | none => rfl
  | some o => cases o <;> rfl
@[simp] theorem bm_pop {n : Nat} : bmD .pop (.ref n) [] S = match S[n]? with
    | some (.lst xs) => (match xs[xs.length - 1]? with
        | some d => .ok d (S.set n (.lst xs.dropLast))
        | none => .no)
    | _ => .no := by
  unfold bmD
  simp only
  cases S[n]? with
  | none => rfl
  | some o => cases o <;> rfl
@[simp] theorem bm_popAt {n : Nat} {i : Int} : bmD .popAt (.ref n) [.int i] S = match S[n]? with
    | some (.lst xs) => (match ixN xs.length i with
        | some k => (match xs[k]? with
          | some d => .ok d (S.set n (.lst (xs.eraseIdx k)))
          | none => .no)
        | none => .no)
    | _ => .no := by
  unfold bmD
  simp only
  cases S[n]? with
  | none => rfl
  | some o => cases o <;> rfl
theorem bm_get1 {n : Nat} {k : D} {kvs : List (Key × D)} {q : Key} (h : S[n]? = some (.dK kvs)) (hq : k.key = some q) : bmD .get1 (.ref n) [k] S = .ok ((getK kvs q).getD .non) S := by simp [bmD, h, getB, hq]
theorem bm_update {n k : Nat} {kvs more : List (Key × D)} (h : S[n]? = some (.dK kvs)) (h2 : S[k]? = some (.dK more)) (hne : n ≠ k) (hl : kvs.length + more.length ≤ lim) : bmD .update (.ref n) [.ref k] S = .ok .non (S.set n (.dK (mergeD kvs more))) := by
  simp [bmD, h, h2, hne, hl]
theorem bm_index {n : Nat} {d : D} : bmD .index (.ref n) [d] S = match S[n]? with
    | some (.lst xs) => (match toPy S 40 d, xs.mapM (toPy S 39) with
        | some y, some ys => (match ys.findIdx? fun z => PyData.eqv z y with
          | some j => .ok (.int (j : Nat)) S
          | none => .no)
        | _, _ => .no)
    | _ => .no := by
  unfold bmD
  simp only
  cases S[n]? with
  | none => rfl
  | some o => cases o <;> rfl
theorem atI_mem {α : Type} {xs : List α} {k : Int} (h0 : 0 ≤ k) (h1 : k < xs.length) : ∃ d, d ∈ xs ∧ atI xs k = some d := by
  have hk : k.toNat < xs.length := by omega
  refine ⟨xs[k.toNat], List.getElem_mem hk, ?_⟩
  have : ixN xs.length k = some k.toNat := by
    unfold ixN
    rw [if_pos h0, if_pos h1]
  simp [atI, this, hk]
end
theorem ofStr_inj {a b : String} : Str.ofString a = Str.ofString b ↔ a = b := by
  constructor
  · intro h
    rw [Str.ofString_eq_toList, Str.ofString_eq_toList] at h
    have h2 : a.toList.map Char.toNat = b.toList.map Char.toNat := by
      have := congrArg (fun s : Str => s.cps.toList) h
      simpa using this
    have h3 : a.toList = b.toList := by
      refine (List.map_inj_right ?_).mp h2
      intro x y e
      exact Char.toNat_inj.mp e
    rw [← String.toList_inj]; exact h3
  · intro h; rw [h]
@[simp] theorem ofStr_eq {a b : String} : (Str.ofString a = Str.ofString b) = (a = b) := propext ofStr_inj
@[simp] theorem ofStr_beq {a b : String} : (Str.ofString a == Str.ofString b) = decide (a = b) := by
  rw [Bool.eq_iff_iff, beq_iff_eq, decide_eq_true_eq, ofStr_inj]
@[simp] theorem strOk_of {a : String} : PyData.strOk (Str.ofString a) = true := by
  unfold PyData.strOk
  rw [Str.ofString_eq_toList]
  simp [Array.all_eq_true_iff_forall_mem]
  intro c hc
  have := c.valid
  unfold Char.toNat
  have h1 : c.val.toNat < 55296 ∨ 57343 < c.val.toNat ∧ c.val.toNat < 1114112 := this
  omega
theorem eqD_of {S : Sto} {a b : D} {x y : PyData} (h : toPy S 40 a = some x) (h' : toPy S 40 b = some y) : eqD S a b = some (PyData.eqv x y) := by simp only [eqD, h, h']
/-- it ends well, and so (an inductive, so that nobody runs it by unfolding) -/
inductive Out.Ok {α : Type} : Out α → (α → Sto → Prop) → Prop
  | mk {a : α} {S : Sto} {P : α → Sto → Prop} : P a S → Out.Ok (.ok a S) P
@[simp] theorem Ok_ok {α : Type} {a : α} {S : Sto} {P : α → Sto → Prop} : (Out.ok a S).Ok P = P a S := propext ⟨fun h => by cases h with | mk h => exact h, fun h => .mk h⟩
theorem Out.Ok.ex {α : Type} {o : Out α} {P : α → Sto → Prop} (h : o.Ok P) : ∃ a S, o = .ok a S ∧ P a S := by
  cases h with
  | mk h => exact ⟨_, _, rfl, h⟩
theorem fnN_succ (G : Gi) (n f : Nat) (ds : List D) (S : Sto) {fi : FI} (h : G.fns[f]? = some fi) : ∃ Y : Fs, Y.f = fnN G n ∧ Y.gv = G.gv ∧ fnN G (n + 1) f ds S = runF Y fi ds S := by
  cases n with
  | zero => exact ⟨⟨fun _ _ _ => .no, fun _ _ _ => .no, G.gv⟩, by funext f ds S; rw [fnN], rfl, by simp only [fnN, h]⟩
  | succ n => exact ⟨⟨fnN G (n + 1), fnN G n, G.gv⟩, rfl, rfl, by simp only [fnN, h]⟩
/-- a loop over a range that goes on at every step -/
theorem forN_rng {as : D → Env → Option Env} {body : Env → Sto → Out Fl} {lo : Int} {k : Nat} (P : Env → Prop)
    (step : ∀ i env S, P env → i < k → ∃ env1, as (.int (lo + i)) env = some env1 ∧ ∃ env2 S2, body env1 S = .ok (.nx env2) S2 ∧ P env2) :
    ∀ f i env S, P env → k - i < f → ∃ env' S', forN (itNext (.rng lo k)) as body f i env S = .ok (.nx env') S' ∧ P env'
  | 0, i, env, S, h, hf => absurd hf (Nat.not_lt_zero _)
  | f + 1, i, env, S, h, hf => by
    unfold forN
    by_cases hi : i < k
    · obtain ⟨env1, e1, env2, S2, e2, h2⟩ := step i env S h hi
      obtain ⟨env', S', e3, h3⟩ := forN_rng P step f (i + 1) env2 S2 h2 (by omega)
      exact ⟨env', S', by simp only [itNext, hi, if_true, e1, e2, bind_ok, e3], h3⟩
    · exact ⟨env, S, by simp only [itNext, hi, if_false], h⟩
end Mi

/-! Rules that go through a def's body statement by statement. -/
namespace Mi
open PySem L2
structure Kt where
  nx : Env → Sto → Prop
  rt : D → Sto → Prop
  bk : Env → Sto → Prop := fun _ _ => False
  ct : Env → Sto → Prop := fun _ _ => False
inductive Out.F : Out Fl → Kt → Prop
  | nx {e : Env} {S : Sto} {k : Kt} : k.nx e S → Out.F (.ok (.nx e) S) k
  | rt {d : D} {S : Sto} {k : Kt} : k.rt d S → Out.F (.ok (.rt d) S) k
  | bk {e : Env} {S : Sto} {k : Kt} : k.bk e S → Out.F (.ok (.bk e) S) k
  | ct {e : Env} {S : Sto} {k : Kt} : k.ct e S → Out.F (.ok (.ct e) S) k
@[simp] theorem F_nx {e : Env} {S : Sto} {k : Kt} : (Out.ok (.nx e) S).F k = k.nx e S := propext ⟨fun h => by cases h with | nx h => exact h, fun h => .nx h⟩
@[simp] theorem F_rt {e : D} {S : Sto} {k : Kt} : (Out.ok (.rt e) S).F k = k.rt e S := propext ⟨fun h => by cases h with | rt h => exact h, fun h => .rt h⟩
@[simp] theorem F_bk {e : Env} {S : Sto} {k : Kt} : (Out.ok (.bk e) S).F k = k.bk e S := propext ⟨fun h => by cases h with | bk h => exact h, fun h => .bk h⟩
@[simp] theorem F_ct {e : Env} {S : Sto} {k : Kt} : (Out.ok (.ct e) S).F k = k.ct e S := propext ⟨fun h => by cases h with | ct h => exact h, fun h => .ct h⟩
theorem F_imp {o : Out Fl} {k k' : Kt} (h : o.F k) (h1 : ∀ e s, k.nx e s → k'.nx e s) (h2 : ∀ e s, k.rt e s → k'.rt e s) (h3 : ∀ e s, k.bk e s → k'.bk e s) (h4 : ∀ e s, k.ct e s → k'.ct e s) : o.F k' := by
  cases h with
  | nx h => exact .nx (h1 _ _ h)
  | rt h => exact .rt (h2 _ _ h)
  | bk h => exact .bk (h3 _ _ h)
  | ct h => exact .ct (h4 _ _ h)
theorem Ok_imp {α : Type} {o : Out α} {P Q : α → Sto → Prop} (h : o.Ok P) (f : ∀ a S, P a S → Q a S) : o.Ok Q := by
  cases h with
  | mk h => exact .mk (f _ _ h)
theorem Ok_bind {α β : Type} {o : Out α} {f : α → Sto → Out β} {P : β → Sto → Prop} (h : o.Ok fun a S => (f a S).Ok P) : (o.bind f).Ok P := by
  cases h with
  | mk h => exact h
theorem F_bind {α : Type} {o : Out α} {f : α → Sto → Out Fl} {k : Kt} (h : o.Ok fun a S => (f a S).F k) : (o.bind f).F k := by
  cases h with
  | mk h => exact h
theorem F_seq {o : Out Fl} {f : Env → Sto → Out Fl} {k : Kt} (h : o.F { k with nx := fun e s => (f e s).F k }) : (o.bind fun fl S1 => match fl with
    | .nx env1 => f env1 S1
    | fl => .ok fl S1).F k := by
  cases h with
  | nx h => exact h
  | rt h => exact .rt h
  | bk h => exact .bk h
  | ct h => exact .ct h
section
variable {Y : Fs} {env : Env} {S : Sto} {cs : Cs} {k : Kt}
theorem w_nil (h : k.nx env S) : (execs Y .nil env S).F k := by simp only [execs]; exact .nx h
theorem w_cons {c : C} (h : (exec Y c env S).F { k with nx := fun e s => (execs Y cs e s).F k }) : (execs Y (.cons c cs) env S).F k := by
  rw [execs]
  generalize exec Y c env S = o at h ⊢
  cases h with
  | nx h => exact h
  | rt h => exact .rt h
  | bk h => exact .bk h
  | ct h => exact .ct h
theorem w_set {i : Nat} {e : E} {bb : Cs} (hb : bb = .cons (.set i e) cs) (h : (ev Y e env S).Ok fun d S1 => (execs Y cs (env.set i (some d)) S1).F k) : (execs Y bb env S).F k := by
  subst hb
  refine w_cons ?_
  rw [exec]
  exact F_bind (Ok_imp h fun _ _ q => .nx q)
theorem w_aug {i : Nat} {op : Operator} {e : E} {x : D} {bb : Cs} (hb : bb = .cons (.aug i op e) cs) (hx : env[i]? = some (some x)) (h : (ev Y e env S).Ok fun y S1 => (augD op x y S1).Ok fun z S2 => (execs Y cs (env.set i (some z)) S2).F k) : (execs Y bb env S).F k := by
  subst hb
  refine w_cons ?_
  rw [exec]
  simp only [hx]
  exact F_bind (Ok_imp h fun _ _ q => F_bind (Ok_imp q fun _ _ q => .nx q))
theorem w_setT {is : List Nat} {e : E} {bb : Cs} (hb : bb = .cons (.setT is e) cs) (h : (ev Y e env S).Ok fun d S1 => match asgS S1 is d env with
    | some env1 => (execs Y cs env1 S1).F k
    | none => False) : (execs Y bb env S).F k := by
  subst hb
  refine w_cons ?_
  rw [exec]
  refine F_bind (Ok_imp h fun d S1 q => ?_)
  cases he : asgS S1 is d env with
  | none => simp only [he] at q
  | some env1 => simp only [he] at q ⊢; exact .nx q
theorem w_par {i j : Nat} {a b : E} {bb : Cs} (hb : bb = .cons (.par i j a b) cs) (h : (ev Y a env S).Ok fun x S1 => (ev Y b env S1).Ok fun y S2 => (execs Y cs ((env.set i (some x)).set j (some y)) S2).F k) : (execs Y bb env S).F k := by
  subst hb
  refine w_cons ?_
  rw [exec]
  exact F_bind (Ok_imp h fun _ _ q => F_bind (Ok_imp q fun _ _ q => .nx q))
theorem w_setIx {o i e : E} {bb : Cs} (hb : bb = .cons (.setIx o i e) cs) (h : (ev Y e env S).Ok fun x S1 => (ev Y o env S1).Ok fun a S2 => (ev Y i env S2).Ok fun q S3 => match setD a q x S3 with
    | some S4 => (execs Y cs env S4).F k
    | none => False) : (execs Y bb env S).F k := by
  subst hb
  refine w_cons ?_
  rw [exec]
  refine F_bind (Ok_imp h fun x S1 q => F_bind (Ok_imp q fun a S2 q => F_bind (Ok_imp q fun d S3 q => ?_)))
  cases he : setD a d x S3 with
  | none => simp only [he] at q
  | some S4 => simp only [he] at q ⊢; exact .nx q
theorem w_ex {e : E} {bb : Cs} (hb : bb = .cons (.ex e) cs) (h : (ev Y e env S).Ok fun _ S1 => (execs Y cs env S1).F k) : (execs Y bb env S).F k := by
  subst hb
  refine w_cons ?_
  rw [exec]
  exact F_bind (Ok_imp h fun _ _ q => .nx q)
theorem w_ret {e : E} {bb : Cs} (hb : bb = .cons (.ret e) cs) (h : (ev Y e env S).Ok k.rt) : (execs Y bb env S).F k := by
  subst hb
  refine w_cons ?_
  rw [exec]
  exact F_bind (Ok_imp h fun _ _ q => .rt q)
theorem w_retN {bb : Cs} (hb : bb = .cons .retN cs) (h : k.rt .non S) : (execs Y bb env S).F k := by
  subst hb
  refine w_cons ?_
  rw [exec]
  exact .rt h
theorem w_pass {bb : Cs} (hb : bb = .cons .pass cs) (h : (execs Y cs env S).F k) : (execs Y bb env S).F k := by
  subst hb
  refine w_cons ?_
  rw [exec]
  exact .nx h
theorem w_doc {bb : Cs} (hb : bb = .cons .doc cs) (h : (execs Y cs env S).F k) : (execs Y bb env S).F k := by
  subst hb
  refine w_cons ?_
  rw [exec]
  exact .nx h
theorem w_brk {bb : Cs} (hb : bb = .cons .brk cs) (h : k.bk env S) : (execs Y bb env S).F k := by
  subst hb
  refine w_cons ?_
  rw [exec]
  exact .bk h
theorem w_cnt {bb : Cs} (hb : bb = .cons .cnt cs) (h : k.ct env S) : (execs Y bb env S).F k := by
  subst hb
  refine w_cons ?_
  rw [exec]
  exact .ct h
theorem w_if {c : E} {a b : Cs} {bb : Cs} (hb : bb = .cons (.ifS c a b) cs) (h : (ev Y c env S).Ok fun x S1 => match truthD S1 x with
    | some true => (execs Y a env S1).F { k with nx := fun e s => (execs Y cs e s).F k }
    | some false => (execs Y b env S1).F { k with nx := fun e s => (execs Y cs e s).F k }
    | none => False) : (execs Y bb env S).F k := by
  subst hb
  refine w_cons ?_
  rw [exec]
  refine F_bind ?_
  rw [evT_eq]
  refine Ok_bind (Ok_imp h fun x S1 q => ?_)
  generalize truthD S1 x = t at q ⊢
  match t, q with
  | some true, q => exact .mk q
  | some false, q => exact .mk q
  | none, q => exact q.elim
theorem w_for {tg : Tg} {it : I} {b : Cs} {bb : Cs} (hb : bb = .cons (.forS tg it b) cs) (h : (evI Y it env S).Ok fun J S1 => (forN (itNext J) (asg tg) (fun e s => execs Y b e s) (lim + 2) 0 env S1).F { k with nx := fun e s => (execs Y cs e s).F k }) : (execs Y bb env S).F k := by
  subst hb
  refine w_cons ?_
  rw [exec]
  exact F_bind h
theorem w_whl {c : E} {b : Cs} {bb : Cs} (hb : bb = .cons (.whl c b) cs) (h : (whlN (fun e s => evT Y c e s) (fun e s => execs Y b e s) (lim + 2) env S).F { k with nx := fun e s => (execs Y cs e s).F k }) : (execs Y bb env S).F k := by
  subst hb
  refine w_cons ?_
  rw [exec]
  exact h
end
theorem run_ok {G : Gi} {n f : Nat} {ds : List D} {S : Sto} {P : D → Sto → Prop} (fi : FI) (hi : G.fns[f]? = some fi) (hl : (decide (ds.length = fi.ps.length)) = true)
    (h : ∀ Y : Fs, Y.f = fnN G n → Y.gv = G.gv → (execs Y fi.b (ds.map some ++ List.replicate (fi.N.length - ds.length) none) S).F ⟨fun _ S => P .non S, P, fun _ _ => False, fun _ _ => False⟩) : (fnN G (n + 1) f ds S).Ok P := by
  obtain ⟨Y, hf, hg, e⟩ := fnN_succ G n f ds S hi
  rw [e]
  unfold runF
  rw [if_pos (of_decide_eq_true hl)]
  have q := h Y hf hg
  refine Ok_bind ?_
  generalize execs Y fi.b (ds.map some ++ List.replicate (fi.N.length - ds.length) none) S = o at q ⊢
  cases q with
  | nx q => exact .mk (.mk q)
  | rt q => exact .mk (.mk q)
  | bk q => exact q.elim
  | ct q => exact q.elim

/-! comparing data -/
@[simp] theorem q_none_none : PyData.eqv .none .none = true := by simp only [PyData.eqv]
@[simp] theorem q_none_bool {y : Bool} : PyData.eqv .none (.bool y) = false := by simp only [PyData.eqv]
@[simp] theorem q_none_int {y : Int} : PyData.eqv .none (.int y) = false := by simp only [PyData.eqv]
@[simp] theorem q_none_str {y : Str} : PyData.eqv .none (.str y) = false := by simp only [PyData.eqv]
@[simp] theorem q_none_list {y : List PyData} : PyData.eqv .none (.list y) = false := by simp only [PyData.eqv]
@[simp] theorem q_none_tuple {y : List PyData} : PyData.eqv .none (.tuple y) = false := by simp only [PyData.eqv]
@[simp] theorem q_bool_none {x : Bool} : PyData.eqv (.bool x) .none = false := by simp only [PyData.eqv]
@[simp] theorem q_bool_bool {x : Bool} {y : Bool} : PyData.eqv (.bool x) (.bool y) = (x == y) := by simp only [PyData.eqv]
@[simp] theorem q_bool_int {x : Bool} {y : Int} : PyData.eqv (.bool x) (.int y) = ((if x = true then (1 : Int) else 0) == y) := by simp only [PyData.eqv]
@[simp] theorem q_bool_str {x : Bool} {y : Str} : PyData.eqv (.bool x) (.str y) = false := by simp only [PyData.eqv]
@[simp] theorem q_bool_list {x : Bool} {y : List PyData} : PyData.eqv (.bool x) (.list y) = false := by simp only [PyData.eqv]
@[simp] theorem q_bool_tuple {x : Bool} {y : List PyData} : PyData.eqv (.bool x) (.tuple y) = false := by simp only [PyData.eqv]
@[simp] theorem q_int_none {x : Int} : PyData.eqv (.int x) .none = false := by simp only [PyData.eqv]
@[simp] theorem q_int_bool {x : Int} {y : Bool} : PyData.eqv (.int x) (.bool y) = (x == (if y = true then (1 : Int) else 0)) := by simp only [PyData.eqv]
@[simp] theorem q_int_int {x : Int} {y : Int} : PyData.eqv (.int x) (.int y) = (x == y) := by simp only [PyData.eqv]
@[simp] theorem q_int_str {x : Int} {y : Str} : PyData.eqv (.int x) (.str y) = false := by simp only [PyData.eqv]
@[simp] theorem q_int_list {x : Int} {y : List PyData} : PyData.eqv (.int x) (.list y) = false := by simp only [PyData.eqv]
@[simp] theorem q_int_tuple {x : Int} {y : List PyData} : PyData.eqv (.int x) (.tuple y) = false := by simp only [PyData.eqv]
@[simp] theorem q_str_none {x : Str} : PyData.eqv (.str x) .none = false := by simp only [PyData.eqv]
@[simp] theorem q_str_bool {x : Str} {y : Bool} : PyData.eqv (.str x) (.bool y) = false := by simp only [PyData.eqv]
@[simp] theorem q_str_int {x : Str} {y : Int} : PyData.eqv (.str x) (.int y) = false := by simp only [PyData.eqv]
@[simp] theorem q_str_str {x : Str} {y : Str} : PyData.eqv (.str x) (.str y) = (x == y) := by simp only [PyData.eqv]
@[simp] theorem q_str_list {x : Str} {y : List PyData} : PyData.eqv (.str x) (.list y) = false := by simp only [PyData.eqv]
@[simp] theorem q_str_tuple {x : Str} {y : List PyData} : PyData.eqv (.str x) (.tuple y) = false := by simp only [PyData.eqv]
@[simp] theorem q_list_none {x : List PyData} : PyData.eqv (.list x) .none = false := by simp only [PyData.eqv]
@[simp] theorem q_list_bool {x : List PyData} {y : Bool} : PyData.eqv (.list x) (.bool y) = false := by simp only [PyData.eqv]
@[simp] theorem q_list_int {x : List PyData} {y : Int} : PyData.eqv (.list x) (.int y) = false := by simp only [PyData.eqv]
@[simp] theorem q_list_str {x : List PyData} {y : Str} : PyData.eqv (.list x) (.str y) = false := by simp only [PyData.eqv]
@[simp] theorem q_list_list {x : List PyData} {y : List PyData} : PyData.eqv (.list x) (.list y) = PyData.eqvAll x y := by simp only [PyData.eqv]
@[simp] theorem q_list_tuple {x : List PyData} {y : List PyData} : PyData.eqv (.list x) (.tuple y) = false := by simp only [PyData.eqv]
@[simp] theorem q_tuple_none {x : List PyData} : PyData.eqv (.tuple x) .none = false := by simp only [PyData.eqv]
@[simp] theorem q_tuple_bool {x : List PyData} {y : Bool} : PyData.eqv (.tuple x) (.bool y) = false := by simp only [PyData.eqv]
@[simp] theorem q_tuple_int {x : List PyData} {y : Int} : PyData.eqv (.tuple x) (.int y) = false := by simp only [PyData.eqv]
@[simp] theorem q_tuple_str {x : List PyData} {y : Str} : PyData.eqv (.tuple x) (.str y) = false := by simp only [PyData.eqv]
@[simp] theorem q_tuple_list {x : List PyData} {y : List PyData} : PyData.eqv (.tuple x) (.list y) = false := by simp only [PyData.eqv]
@[simp] theorem q_tuple_tuple {x : List PyData} {y : List PyData} : PyData.eqv (.tuple x) (.tuple y) = PyData.eqvAll x y := by simp only [PyData.eqv]
@[simp] theorem qA_nil : PyData.eqvAll [] [] = true := by simp only [PyData.eqvAll]
@[simp] theorem qA_cons {x y : PyData} {xs ys : List PyData} : PyData.eqvAll (x :: xs) (y :: ys) = (PyData.eqv x y && PyData.eqvAll xs ys) := by simp only [PyData.eqvAll]
@[simp] theorem qA_nc {y : PyData} {ys : List PyData} : PyData.eqvAll [] (y :: ys) = false := by simp only [PyData.eqvAll]
@[simp] theorem qA_cn {y : PyData} {ys : List PyData} : PyData.eqvAll (y :: ys) [] = false := by simp only [PyData.eqvAll]
/-- only new things stand behind -/
def Ext (S S' : Sto) : Prop := ∃ T, S' = S ++ T
@[simp] theorem Ext_refl (S : Sto) : Ext S S := ⟨[], by simp⟩
@[simp] theorem Ext_app (S T : Sto) : Ext S (S ++ T) := ⟨T, rfl⟩
theorem Ext.trans {S S1 S2 : Sto} (a : Ext S S1) (b : Ext S1 S2) : Ext S S2 := by
  obtain ⟨T, rfl⟩ := a
  obtain ⟨U, rfl⟩ := b
  exact ⟨T ++ U, by simp⟩
theorem Ext.at {S S' : Sto} (h : Ext S S') {n : Nat} {o : MO} (e : S[n]? = some o) : S'[n]? = some o := by
  obtain ⟨T, rfl⟩ := h
  rw [List.getElem?_append_left (List.getElem?_eq_some_iff.mp e).1]
  exact e
/-- loops -/
theorem forN_inv {nx : Nat → Sto → Option (Option D)} {as : D → Env → Option Env} {body : Env → Sto → Out Fl} {k : Kt} (Inv : Nat → Env → Sto → Prop) (m : Nat) (el : Nat → D)
    (hn : ∀ i env S, Inv i env S → i < m → nx i S = some (some (el i))) (he : ∀ env S, Inv m env S → nx m S = some none)
    (hs : ∀ i env S, Inv i env S → i < m → ∃ env1, as (el i) env = some env1 ∧ (body env1 S).F ⟨Inv (i + 1), k.rt, k.nx, Inv (i + 1)⟩)
    (hf : ∀ env S, Inv m env S → k.nx env S) : ∀ f i env S, Inv i env S → i ≤ m → m - i < f → (forN nx as body f i env S).F k
  | 0, i, env, S, h, hi, q => absurd q (Nat.not_lt_zero _)
  | f + 1, i, env, S, h, hi, q => by
    unfold forN
    by_cases hlt : i < m
    · obtain ⟨env1, e1, hb⟩ := hs i env S h hlt
      rw [hn i env S h hlt]
      simp only [e1]
      generalize body env1 S = o at hb ⊢
      cases hb with
      | nx hb => exact forN_inv Inv m el hn he hs hf f (i + 1) _ _ hb hlt (by omega)
      | ct hb => exact forN_inv Inv m el hn he hs hf f (i + 1) _ _ hb hlt (by omega)
      | bk hb => exact .nx hb
      | rt hb => exact .rt hb
    · have : i = m := Nat.le_antisymm hi (Nat.not_lt.mp hlt)
      subst this
      rw [he env S h]
      exact .nx (hf env S h)
theorem compN_inv {nx : Nat → Sto → Option (Option D)} {as : D → Env → Option Env} {tt : Env → Sto → Out Bool} {elt : Env → Sto → Out D} {env : Env} {P : List D → Sto → Prop} (Inv : Nat → List D → Sto → Prop) (m : Nat) (el : Nat → D) (hm : m ≤ lim)
    (hn : ∀ i acc S, Inv i acc S → i < m → nx i S = some (some (el i))) (he : ∀ acc S, Inv m acc S → nx m S = some none)
    (hs : ∀ i acc S, Inv i acc S → i < m → ∃ env1, as (el i) env = some env1 ∧ (tt env1 S).Ok fun b S1 => match b with
      | false => Inv (i + 1) acc S1
      | true => (elt env1 S1).Ok fun y S2 => Inv (i + 1) (acc ++ [y]) S2)
    (hf : ∀ acc S, Inv m acc S → P acc S) : ∀ f i acc S, Inv i acc S → acc.length ≤ i → i ≤ m → m - i < f → (compN nx as tt elt env f i acc S).Ok P
  | 0, i, acc, S, h, ha, hi, q => absurd q (Nat.not_lt_zero _)
  | f + 1, i, acc, S, h, ha, hi, q => by
    unfold compN
    by_cases hlt : i < m
    · obtain ⟨env1, e1, hb⟩ := hs i acc S h hlt
      rw [hn i acc S h hlt]
      simp only [e1]
      generalize tt env1 S = o at hb ⊢
      cases hb with
      | @mk b S1 _ hb =>
        cases b with
        | false => exact compN_inv Inv m el hm hn he hs hf f (i + 1) acc S1 hb (by omega) hlt (by omega)
        | true =>
          have hb : (elt env1 S1).Ok fun y S2 => Inv (i + 1) (acc ++ [y]) S2 := hb
          show ((elt env1 S1).bind fun y S2 => if acc.length < lim then compN nx as tt elt env f (i + 1) (acc ++ [y]) S2 else .no).Ok P
          generalize elt env1 S1 = o2 at hb ⊢
          cases hb with
          | @mk y S2 _ hb =>
            show (if acc.length < lim then _ else _ : Out (List D)).Ok P
            rw [if_pos (by omega)]
            exact compN_inv Inv m el hm hn he hs hf f (i + 1) (acc ++ [y]) S2 hb (by rw [List.length_append, List.length_singleton]; omega) hlt (by omega)
    · have : i = m := Nat.le_antisymm hi (Nat.not_lt.mp hlt)
      subst this
      rw [he acc S h]
      exact .mk (hf acc S h)
theorem whlN_inv {c : Env → Sto → Out Bool} {body : Env → Sto → Out Fl} {k : Kt} (Inv : Nat → Env → Sto → Prop)
    (hs : ∀ m env S, Inv m env S → (c env S).Ok fun b S1 => match b with
      | false => k.nx env S1
      | true => (body env S1).F ⟨fun e s => ∃ m', m' < m ∧ Inv m' e s, k.rt, k.nx, fun e s => ∃ m', m' < m ∧ Inv m' e s⟩) : ∀ f m env S, Inv m env S → m < f → (whlN c body f env S).F k
  | 0, m, env, S, h, q => absurd q (Nat.not_lt_zero _)
  | f + 1, m, env, S, h, q => by
    unfold whlN
    have hb := hs m env S h
    generalize c env S = o at hb ⊢
    cases hb with
    | @mk b S1 _ hb =>
      cases b with
      | false => exact .nx hb
      | true =>
        have hb : (body env S1).F ⟨fun e s => ∃ m', m' < m ∧ Inv m' e s, k.rt, k.nx, fun e s => ∃ m', m' < m ∧ Inv m' e s⟩ := hb
        show ((body env S1).bind fun fl S2 => match fl with
          | .nx env2 => whlN c body f env2 S2
          | .ct env2 => whlN c body f env2 S2
          | .bk env2 => .ok (.nx env2) S2
          | .rt d => .ok (.rt d) S2).F k
        generalize body env S1 = o2 at hb ⊢
        cases hb with
        | nx hb =>
          obtain ⟨m', hm, hi⟩ := hb
          exact whlN_inv Inv hs f m' _ _ hi (by omega)
        | ct hb =>
          obtain ⟨m', hm, hi⟩ := hb
          exact whlN_inv Inv hs f m' _ _ hi (by omega)
        | bk hb => exact .nx hb
        | rt hb => exact .rt hb
theorem evI_head {Y : Fs} {env : Env} {S : Sto} {i : Nat} {a b : Int} (A B : Nat) {xs : List D} (h : env[i]? = some (some (.rol xs))) (ha : a = A) (hb : b = B) (hA : A ≤ 1000000) (hB : B ≤ 1000000) :
    evI Y (.rng1 (.bi .max2 (.cons (.con (.int a)) (.cons (.bi .min2 (.cons (.bi .len (.cons (.var i) .nil)) (.cons (.con (.int b)) .nil))) .nil)))) env S = .ok (.rng 0 (max A (min xs.length B))) S := by
  subst ha hb
  rw [evI_rng1]
  have e : (if (1 : Int) * (if (B : Int) < (xs.length : Int) then (B : Int) else (xs.length : Int)) > (A : Int) then (if (B : Int) < (xs.length : Int) then (B : Int) else (xs.length : Int)) else (A : Int)) = ((max A (min xs.length B) : Nat) : Int) := by
    rw [Int.one_mul]
    split <;> split <;> omega
  rw [Int.one_mul] at e
  simp only [ev_bi, evs_cons, ev_con, bind_ok, ev_var h, evs_nil, bi_len lenD_rol, bi_min, bi_max]
  rw [e, if_pos (by omega)]
  rfl
theorem call_ok {Y : Fs} {env : Env} {S : Sto} {f : Nat} {es : Es} {P : D → Sto → Prop} (h : (evs Y es env S).Ok fun ds S1 => (Y.f f ds S1).Ok P) : (ev Y (.call f es) env S).Ok P := by
  rw [ev_call]
  exact Ok_bind h
theorem for_rng {lo : Int} {m j : Nat} {body : Env → Sto → Out Fl} {k : Kt} {env : Env} {S : Sto} (Inv : Nat → Env → Sto → Prop) (hm : m ≤ lim) (h0 : Inv 0 env S)
    (hs : ∀ i env S, Inv i env S → i < m → (body (env.set j (some (.int (lo + i)))) S).F ⟨Inv (i + 1), k.rt, k.nx, Inv (i + 1)⟩)
    (hf : ∀ env S, Inv m env S → k.nx env S) : (forN (itNext (.rng lo m)) (asg (.nm j)) body (lim + 2) 0 env S).F k := by
  refine forN_inv Inv m (fun i => .int (lo + (i : Int))) ?_ ?_ ?_ hf (lim + 2) 0 env S h0 (Nat.zero_le _) (by omega)
  · intro i e S hI hi
    simp only [itNext, if_pos hi]
  · intro e S hI
    simp only [itNext, if_neg (Nat.lt_irrefl _)]
  · intro i e S hI hi
    exact ⟨_, rfl, hs i e S hI hi⟩
theorem set_last {S : Sto} {a b : MO} : (S ++ [a]).set S.length b = S ++ [b] := by simp
/-- a loop over a tuple -/
theorem for_tup {xs : List D} {tg : Tg} {body : Env → Sto → Out Fl} {k : Kt} {env : Env} {S : Sto} (Inv : Nat → Env → Sto → Prop) (hm : xs.length ≤ lim) (h0 : Inv 0 env S)
    (hs : ∀ i (h : i < xs.length) env S, Inv i env S → ∃ env1, asg tg xs[i] env = some env1 ∧ (body env1 S).F ⟨Inv (i + 1), k.rt, k.nx, Inv (i + 1)⟩)
    (hf : ∀ env S, Inv xs.length env S → k.nx env S) : (forN (itNext (.tup xs)) (asg tg) body (lim + 2) 0 env S).F k := by
  refine forN_inv Inv xs.length (fun i => xs[i]?.getD .non) ?_ ?_ ?_ hf (lim + 2) 0 env S h0 (Nat.zero_le _) (by omega)
  · intro i e S hI hi
    simp [itNext, hi]
  · intro e S hI
    simp [itNext]
  · intro i e S hI hi
    obtain ⟨env1, e1, h⟩ := hs i hi e S hI
    exact ⟨env1, by simp [hi, e1], h⟩
/-- a loop over a list that nobody writes meanwhile -/
theorem for_lst {xs : List D} {r : Nat} {tg : Tg} {body : Env → Sto → Out Fl} {k : Kt} {env : Env} {S : Sto} (Inv : Nat → Env → Sto → Prop) (hm : xs.length ≤ lim) (h0 : Inv 0 env S)
    (hr : ∀ i env S, Inv i env S → S[r]? = some (.lst xs))
    (hs : ∀ i (h : i < xs.length) env S, Inv i env S → ∃ env1, asg tg xs[i] env = some env1 ∧ (body env1 S).F ⟨Inv (i + 1), k.rt, k.nx, Inv (i + 1)⟩)
    (hf : ∀ env S, Inv xs.length env S → k.nx env S) : (forN (itNext (.seq (.ref r))) (asg tg) body (lim + 2) 0 env S).F k := by
  refine forN_inv Inv xs.length (fun i => xs[i]?.getD .non) ?_ ?_ ?_ hf (lim + 2) 0 env S h0 (Nat.zero_le _) (by omega)
  · intro i e S hI hi
    simp [itNext, seqAt, lstAt, hr i e S hI, hi]
  · intro e S hI
    simp [itNext, seqAt, lstAt, hr _ e S hI]
  · intro i e S hI hi
    obtain ⟨env1, e1, h⟩ := hs i hi e S hI
    exact ⟨env1, by simp [hi, e1], h⟩
/-- a comprehension that changes nothing -/
theorem comp_go {xs : List D} {nx : Nat → Sto → Option (Option D)} {as : D → Env → Option Env} {tt : Env → Sto → Out Bool} {elt : Env → Sto → Out D} {env : Env} {S : Sto} {en : D → Env} {p : D → Bool} {g : D → D} (hm : xs.length ≤ lim)
    (hn : ∀ i, nx i S = some xs[i]?) (ha : ∀ x ∈ xs, as x env = some (en x)) (ht : ∀ x ∈ xs, tt (en x) S = .ok (p x) S) (he : ∀ x ∈ xs, p x = true → elt (en x) S = .ok (g x) S) :
    ∀ f i acc, acc.length ≤ i → i ≤ xs.length → xs.length - i < f → compN nx as tt elt env f i acc S = .ok (acc ++ ((xs.drop i).filter p).map g) S
  | 0, i, acc, h1, h2, h3 => absurd h3 (Nat.not_lt_zero _)
  | f + 1, i, acc, h1, h2, h3 => by
    unfold compN
    rw [hn]
    by_cases hi : i < xs.length
    · have hx : xs[i] ∈ xs := List.getElem_mem hi
      rw [List.getElem?_eq_getElem hi, List.drop_eq_getElem_cons hi]
      simp only [ha _ hx, ht _ hx, bind_ok]
      cases hp : p xs[i] with
      | false =>
        simp only
        rw [comp_go hm hn ha ht he f (i + 1) acc (by omega) hi (by omega), List.filter_cons_of_neg (by rw [hp]; exact Bool.false_ne_true)]
      | true =>
        simp only [he _ hx hp, bind_ok]
        rw [if_pos (by omega), comp_go hm hn ha ht he f (i + 1) _ (by rw [List.length_append, List.length_singleton]; omega) hi (by omega), List.filter_cons_of_pos hp]
        simp
    · have e : xs[i]? = none := by simp; omega
      rw [e]
      have e2 : xs.drop i = [] := by simp; omega
      simp [e2]
theorem comp_pure {xs : List D} {nx : Nat → Sto → Option (Option D)} {as : D → Env → Option Env} {tt : Env → Sto → Out Bool} {elt : Env → Sto → Out D} {env : Env} {S : Sto} (en : D → Env) (p : D → Bool) (g : D → D) (hm : xs.length ≤ lim)
    (hn : ∀ i, nx i S = some xs[i]?) (ha : ∀ x ∈ xs, as x env = some (en x)) (ht : ∀ x ∈ xs, tt (en x) S = .ok (p x) S) (he : ∀ x ∈ xs, p x = true → elt (en x) S = .ok (g x) S) :
    compN nx as tt elt env (lim + 2) 0 [] S = .ok ((xs.filter p).map g) S := by
  have q := comp_go hm hn ha ht he (lim + 2) 0 [] (Nat.le_refl _) (Nat.zero_le _) (by omega)
  simpa using q
/-- the same, with the level's name hidden (else Lean may run the def while it looks at the goal) -/
theorem run_okF {G : Gi} {n f : Nat} {ds : List D} {S : Sto} {P : D → Sto → Prop} {F : Nat → List D → Sto → Out D} (hF : fnN G (n + 1) = F) (fi : FI) (hi : G.fns[f]? = some fi) (hl : (decide (ds.length = fi.ps.length)) = true)
    (h : ∀ Y : Fs, Y.f = fnN G n → Y.gv = G.gv → (execs Y fi.b (ds.map some ++ List.replicate (fi.N.length - ds.length) none) S).F ⟨fun _ S => P .non S, P, fun _ _ => False, fun _ _ => False⟩) : (F f ds S).Ok P := by
  subst hF
  exact run_ok fi hi hl h
end Mi

namespace My
open PySem L2 Mi
def stm (i : Nat) : Stmt := PySem.Challenge.pw_eachstepsame_k03_what_operations_fit.main.body.getD i (.Pass ⟨0, 0, 0, 0⟩)
def f0_0 : Cs := (.cons (.ret (.and_ (.cons (.isi (.var 0) true [.b .int]) (.cons (.not_ (.isi (.var 0) true [.b .bool])) .nil)))) .nil)
/-- is_whole -/
def f0 : FI := ⟨"is_whole", ["thing"], ["thing"],
    f0_0⟩
def f1_0 : Cs := (.cons (.ret (.and_ (.cons (.isi (.var 0) true [.b .tuple]) (.cons (.cmp .Eq (.bi .len (.cons (.var 0) .nil)) (.con (.int (1)))) (.cons (.or_ (.cons (.cmp .Eq (.idx (.var 0) (.con (.int (0)))) (.con (.str "num"))) (.cons (.cmp .Eq (.idx (.var 0) (.con (.int (0)))) (.con (.str "truth"))) .nil))) .nil))))) .nil)
/-- is_plain -/
def f1 : FI := ⟨"is_plain", ["thing"], ["thing"],
    f1_0⟩
def f2_0 : Cs := (.cons (.ret (.bi .all1 (.cons (.comp [("part", 1)] (.nm 1) (.val (.idx (.var 0) (.con (.int (1))))) .nil (.call 1 (.cons (.var 1) .nil))) .nil))) .nil)
def f2_1 : Cs := (.cons (.ret (.con (.bl false))) .nil)
def f2_2 : Cs := (.cons (.ifS (.or_ (.cons (.cmp .NotEq (.idx (.var 0) (.con (.int (0)))) (.con (.str "record"))) (.cons (.not_ (.isi (.idx (.var 0) (.con (.int (1)))) true [.b .tuple])) (.cons (.not_ (.chain .LtE .LtE (.con (.int (1))) (.bi .len (.cons (.idx (.var 0) (.con (.int (1)))) .nil)) (.glob 3))) .nil)))) f2_1 .nil) f2_0)
def f2_3 : Cs := (.cons (.ret (.and_ (.cons (.call 0 (.cons (.idx (.var 0) (.con (.int (1)))) .nil)) (.cons (.chain .LtE .LtE (.con (.int (1))) (.idx (.var 0) (.con (.int (1)))) (.glob 2)) .nil)))) .nil)
def f2_4 : Cs := (.cons (.ifS (.cmp .Eq (.idx (.var 0) (.con (.int (0)))) (.con (.str "row"))) f2_3 .nil) f2_2)
def f2_5 : Cs := (.cons (.ret (.con (.bl false))) .nil)
def f2_6 : Cs := (.cons (.ifS (.or_ (.cons (.not_ (.isi (.var 0) true [.b .tuple])) (.cons (.cmp .NotEq (.bi .len (.cons (.var 0) .nil)) (.con (.int (2)))) .nil))) f2_5 .nil) f2_4)
def f2_7 : Cs := (.cons (.ret (.con (.bl true))) .nil)
def f2_8 : Cs := (.cons (.ifS (.call 1 (.cons (.var 0) .nil)) f2_7 .nil) f2_6)
/-- is_kind -/
def f2 : FI := ⟨"is_kind", ["thing", "part"], ["thing"],
    f2_8⟩
def f3_0 : Cs := (.cons (.ret (.lst .nil)) .nil)
def f3_1 : Cs := (.cons (.ret (.bi .lst1 (.cons (.idx (.var 0) (.con (.int (1)))) .nil))) .nil)
def f3_2 : Cs := (.cons (.ifS (.cmp .Eq (.idx (.var 0) (.con (.int (0)))) (.con (.str "record"))) f3_1 .nil) f3_0)
def f3_3 : Cs := (.cons (.ret (.bin .Mult (.lst (.cons (.glob 0) .nil)) (.idx (.var 0) (.con (.int (1)))))) .nil)
def f3_4 : Cs := (.cons (.ifS (.cmp .Eq (.idx (.var 0) (.con (.int (0)))) (.con (.str "row"))) f3_3 .nil) f3_2)
/-- parts_of -/
def f3 : FI := ⟨"parts_of", ["kind"], ["kind"],
    f3_4⟩
def f4_0 : Cs := (.cons (.ret (.cmp .In (.var 0) (.glob 4))) .nil)
/-- is_pure -/
def f4 : FI := ⟨"is_pure", ["op"], ["op"],
    f4_0⟩
def f5_0 : Cs := (.cons (.ret (.cmp .In (.var 0) (.glob 5))) .nil)
/-- is_risky -/
def f5 : FI := ⟨"is_risky", ["op"], ["op"],
    f5_0⟩
def f6_0 : Cs := (.cons (.ret (.con .non)) .nil)
def f6_1 : Cs := (.cons (.ret (.idx (.var 2) (.var 0))) .nil)
def f6_2 : Cs := (.cons (.ifS (.and_ (.cons (.call 0 (.cons (.var 0) .nil)) (.cons (.chain .LtE .Lt (.con (.int (0))) (.var 0) (.bi .len (.cons (.var 2) .nil))) .nil))) f6_1 .nil) f6_0)
def f6_3 : Cs := (.cons (.set 2 (.call 3 (.cons (.var 1) .nil))) .nil)
def f6_4 : Cs := (.cons (.ifS (.call 2 (.cons (.var 1) .nil)) f6_3 .nil) f6_2)
def f6_5 : Cs := (.cons (.set 2 (.lst .nil)) f6_4)
/-- part_at -/
def f6 : FI := ⟨"part_at", ["extra", "kind", "parts"], ["extra", "kind"],
    f6_5⟩
def f7_0 : Cs := (.cons (.ret (.idx (.var 2) (.con (.int (0))))) .nil)
def f7_1 : Cs := (.cons (.ret (.con .non)) .nil)
def f7_2 : Cs := (.cons (.ifS (.or_ (.cons (.cmp .Is (.var 3) (.con .non)) (.cons (.cmp .NotEq (.var 3) (.idx (.var 2) (.con (.int (1))))) .nil))) f7_1 .nil) f7_0)
def f7_3 : Cs := (.cons (.ret (.var 3)) .nil)
def f7_4 : Cs := (.cons (.ifS (.cmp .Eq (.var 0) (.con (.str "get"))) f7_3 .nil) f7_2)
def f7_5 : Cs := (.cons (.set 3 (.call 6 (.cons (.var 1) (.cons (.idx (.var 2) (.con (.int (0)))) .nil)))) f7_4)
def f7_6 : Cs := (.cons (.ret (.con .non)) .nil)
def f7_7 : Cs := (.cons (.ifS (.cmp .NotEq (.bi .len (.cons (.var 2) .nil)) (.bin .Add (.con (.int (1))) (.bi .int1 (.cons (.cmp .Eq (.var 0) (.con (.str "put"))) .nil)))) f7_6 .nil) f7_5)
def f7_8 : Cs := (.cons (.ret (.con .non)) .nil)
def f7_9 : Cs := (.cons (.ret (.var 1)) .nil)
def f7_10 : Cs := (.cons (.ifS (.and_ (.cons (.call 2 (.cons (.var 1) .nil)) (.cons (.cmp .NotEq (.call 3 (.cons (.var 1) .nil)) (.lst .nil)) (.cons (.cmp .Eq (.bi .tup1 (.cons (.call 3 (.cons (.var 1) .nil)) .nil)) (.var 2)) .nil)))) f7_9 .nil) f7_8)
def f7_11 : Cs := (.cons (.ifS (.cmp .Eq (.var 0) (.con (.str "make"))) f7_10 .nil) f7_7)
/-- whole_kind -/
def f7 : FI := ⟨"whole_kind", ["op", "extra", "kinds", "part"], ["op", "extra", "kinds"],
    f7_11⟩
def f8_0 : Cs := (.cons (.ret (.glob 0)) .nil)
def f8_1 : Cs := (.cons (.ret (.idx (.var 1) (.con (.int (0))))) .nil)
def f8_2 : Cs := (.cons (.ifS (.cmp .Eq (.var 0) (.con (.str "lay"))) f8_1 .nil) f8_0)
def f8_3 : Cs := (.cons (.ret (.con .non)) .nil)
def f8_4 : Cs := (.cons (.ifS (.or_ (.cons (.cmp .NotEq (.slc (.var 1) true false (.con (.int (1))) (.con .non)) (.bin .Mult (.tup (.cons (.glob 0) .nil)) (.bin .Add (.con (.int (1))) (.bi .int1 (.cons (.cmp .Eq (.var 0) (.con (.str "lay"))) .nil))))) (.cons (.not_ (.call 2 (.cons (.idx (.var 1) (.con (.int (0)))) .nil))) (.cons (.cmp .NotEq (.idx (.idx (.var 1) (.con (.int (0)))) (.con (.int (0)))) (.con (.str "row"))) .nil)))) f8_3 .nil) f8_2)
/-- placed_kind -/
def f8 : FI := ⟨"placed_kind", ["op", "kinds"], ["op", "kinds"],
    f8_4⟩
def f9_0 : Cs := (.cons (.ret (.tup (.cons (.tup (.cons (.glob 0) (.cons (.glob 0) .nil))) (.cons (.glob 0) .nil)))) .nil)
def f9_1 : Cs := (.cons (.ret (.tup (.cons (.tup (.cons (.glob 0) (.cons (.glob 0) .nil))) (.cons (.glob 1) .nil)))) .nil)
def f9_2 : Cs := (.cons (.ifS (.cmp .In (.var 0) (.tup (.cons (.con (.str "less")) (.cons (.con (.str "same")) .nil)))) f9_1 .nil) f9_0)
def f9_3 : Cs := (.cons (.ret (.tup (.cons (.tup (.cons (.glob 0) .nil)) (.cons (.glob 0) .nil)))) .nil)
def f9_4 : Cs := (.cons (.ifS (.cmp .Eq (.var 0) (.con (.str "neg"))) f9_3 .nil) f9_2)
def f9_5 : Cs := (.cons (.ret (.tup (.cons (.tup (.cons (.glob 1) .nil)) (.cons (.glob 1) .nil)))) .nil)
def f9_6 : Cs := (.cons (.ifS (.cmp .Eq (.var 0) (.con (.str "not"))) f9_5 .nil) f9_4)
def f9_7 : Cs := (.cons (.ret (.tup (.cons (.tup (.cons (.glob 1) (.cons (.glob 1) .nil))) (.cons (.glob 1) .nil)))) .nil)
def f9_8 : Cs := (.cons (.ifS (.cmp .In (.var 0) (.tup (.cons (.con (.str "and")) (.cons (.con (.str "or")) .nil)))) f9_7 .nil) f9_6)
/-- plain_kinds -/
def f9 : FI := ⟨"plain_kinds", ["op"], ["op"],
    f9_8⟩
def f10_0 : Cs := (.cons (.ret (.var 4)) .nil)
def f10_1 : Cs := (.cons (.ret (.con .non)) .nil)
def f10_2 : Cs := (.cons (.ifS (.cmp .NotEq (.var 2) (.var 3)) f10_1 .nil) f10_0)
def f10_3 : Cs := (.cons (.setT [3, 4] (.call 9 (.cons (.var 0) .nil))) f10_2)
def f10_4 : Cs := (.cons (.ret (.call 8 (.cons (.var 0) (.cons (.var 2) .nil)))) .nil)
def f10_5 : Cs := (.cons (.ifS (.cmp .In (.var 0) (.tup (.cons (.con (.str "pick")) (.cons (.con (.str "lay")) .nil)))) f10_4 .nil) f10_3)
def f10_6 : Cs := (.cons (.ret (.con .non)) .nil)
def f10_7 : Cs := (.cons (.ret (.idx (.var 2) (.con (.int (0))))) .nil)
def f10_8 : Cs := (.cons (.ifS (.and_ (.cons (.cmp .Eq (.bi .len (.cons (.var 2) .nil)) (.con (.int (1)))) (.cons (.call 2 (.cons (.idx (.var 2) (.con (.int (0)))) .nil)) .nil))) f10_7 .nil) f10_6)
def f10_9 : Cs := (.cons (.ifS (.cmp .Eq (.var 0) (.con (.str "copy"))) f10_8 .nil) f10_5)
def f10_10 : Cs := (.cons (.ret (.con .non)) .nil)
def f10_11 : Cs := (.cons (.ifS (.or_ (.cons (.cmp .IsNot (.var 1) (.con .non)) (.cons (.cmp .Eq (.var 2) (.tup .nil)) (.cons (.and_ (.cons (.not_ (.call 4 (.cons (.var 0) .nil))) (.cons (.not_ (.call 5 (.cons (.var 0) .nil))) .nil))) .nil)))) f10_10 .nil) f10_9)
def f10_12 : Cs := (.cons (.ret (.call 7 (.cons (.var 0) (.cons (.var 1) (.cons (.var 2) .nil))))) .nil)
def f10_13 : Cs := (.cons (.ifS (.cmp .In (.var 0) (.tup (.cons (.con (.str "make")) (.cons (.con (.str "get")) (.cons (.con (.str "put")) .nil))))) f10_12 .nil) f10_11)
def f10_14 : Cs := (.cons (.set 2 (.bi .tup1 (.cons (.var 2) .nil))) f10_13)
/-- result_kind -/
def f10 : FI := ⟨"result_kind", ["op", "extra", "kinds", "wanted", "result"], ["op", "extra", "kinds"],
    f10_14⟩
def f11_0 : Cs := (.cons (.ret (.bin .Mod (.bin .Mult (.var 2) (.var 2)) (.con (.int (2147483587))))) .nil)
def f11_1 : Cs := (.cons (.set 2 (.bin .Mod (.bin .Add (.bin .Add (.bin .Mult (.bin .Mod (.bin .Mult (.var 2) (.var 2)) (.con (.int (2147483629)))) (.con (.int (16807)))) (.bin .Mult (.var 1) (.con (.int (104729))))) (.con (.int (11)))) (.con (.int (2147483587))))) f11_0)
def f11_2 : Cs := (.cons (.set 2 (.bin .Mod (.bin .Add (.bin .Add (.bin .Mult (.bin .Mod (.var 0) (.con (.int (2147483629)))) (.con (.int (48271)))) (.bin .Mult (.var 1) (.con (.int (7919))))) (.con (.int (104729)))) (.con (.int (2147483629))))) f11_1)
/-- mixed -/
def f11 : FI := ⟨"_law_mixed", ["_law_cell", "_law_k", "_law_number"], ["_law_cell", "_law_k"],
    f11_2⟩
def f12_0 : Cs := (.cons (.ret (.lst (.cons (.var 2) (.cons (.var 2) (.cons (.bin .Mult (.con (.int (100))) (.var 1)) .nil))))) .nil)
def f12_1 : Cs := (.cons (.set 2 (.idx (.var 0) (.var 1))) .nil)
def f12_2 : Cs := (.cons (.ifS (.cmp .Lt (.var 1) (.bi .len (.cons (.var 0) .nil))) f12_1 .nil) f12_0)
def f12_3 : Cs := (.cons (.set 2 (.con (.int (0)))) f12_2)
/-- box -/
def f12 : FI := ⟨"_law_box", ["_law_script", "_law_k", "_law_cell"], ["_law_script", "_law_k"],
    f12_3⟩
def f13_0 : Cs := (.cons (.ret (.bin .Mod (.call 11 (.cons (.idx (.var 0) (.con (.int (0)))) (.cons (.idx (.var 0) (.con (.int (2)))) .nil))) (.var 1))) .nil)
def f13_1 : Cs := (.cons (.ret (.var 2)) .nil)
def f13_2 : Cs := (.cons (.setIx (.var 0) (.con (.int (1))) (.bin .FloorDiv (.idx (.var 0) (.con (.int (1)))) (.var 1))) f13_1)
def f13_3 : Cs := (.cons (.set 2 (.bin .Mod (.idx (.var 0) (.con (.int (1)))) (.var 1))) f13_2)
def f13_4 : Cs := (.cons (.ifS (.and_ (.cons (.cmp .GtE (.idx (.var 0) (.con (.int (0)))) (.bin .Pow (.con (.int (10))) (.con (.int (18))))) (.cons (.cmp .Gt (.idx (.var 0) (.con (.int (1)))) (.con (.int (0)))) .nil))) f13_3 .nil) f13_0)
def f13_5 : Cs := (.cons (.setIx (.var 0) (.con (.int (2))) (.bin .Add (.idx (.var 0) (.con (.int (2)))) (.con (.int (1))))) f13_4)
/-- take -/
def f13 : FI := ⟨"_law_take", ["_law_box_here", "_law_many", "_law_found"], ["_law_box_here", "_law_many"],
    f13_5⟩
def f14_0 : Cs := (.cons (.ret (.idx (.lst (.cons (.tup (.cons (.con (.str "num")) .nil)) (.cons (.tup (.cons (.con (.str "truth")) .nil)) .nil))) (.call 13 (.cons (.var 0) (.cons (.con (.int (2))) .nil))))) .nil)
/-- plain -/
def f14 : FI := ⟨"_law_plain", ["_law_box_here"], ["_law_box_here"],
    f14_0⟩
def f15_0 : Cs := (.cons (.ret (.tup (.cons (.con (.str "record")) (.cons (.bi .tup1 (.cons (.comp [("_law_k", 2)] (.nm 2) (.rng1 (.bin .Add (.con (.int (1))) (.call 13 (.cons (.var 0) (.cons (.con (.int (4))) .nil))))) .nil (.call 14 (.cons (.var 0) .nil))) .nil)) .nil)))) .nil)
def f15_1 : Cs := (.cons (.ret (.tup (.cons (.con (.str "row")) (.cons (.bin .Add (.con (.int (1))) (.call 13 (.cons (.var 0) (.cons (.con (.int (6))) .nil)))) .nil)))) .nil)
def f15_2 : Cs := (.cons (.ifS (.cmp .Eq (.var 1) (.con (.int (2)))) f15_1 .nil) f15_0)
def f15_3 : Cs := (.cons (.ret (.idx (.lst (.cons (.tup (.cons (.con (.str "num")) .nil)) (.cons (.tup (.cons (.con (.str "truth")) .nil)) .nil))) (.var 1))) .nil)
def f15_4 : Cs := (.cons (.ifS (.cmp .Lt (.var 1) (.con (.int (2)))) f15_3 .nil) f15_2)
def f15_5 : Cs := (.cons (.set 1 (.call 13 (.cons (.var 0) (.cons (.con (.int (4))) .nil)))) f15_4)
/-- kind -/
def f15 : FI := ⟨"_law_kind", ["_law_box_here", "_law_way", "_law_k"], ["_law_box_here"],
    f15_5⟩
def f16_0 : Cs := (.cons (.ret (.lst .nil)) .nil)
def f16_1 : Cs := (.cons (.ret (.bi .lst1 (.cons (.idx (.var 0) (.con (.int (1)))) .nil))) .nil)
def f16_2 : Cs := (.cons (.ifS (.cmp .Eq (.idx (.var 0) (.con (.int (0)))) (.con (.str "record"))) f16_1 .nil) f16_0)
def f16_3 : Cs := (.cons (.ret (.bin .Mult (.lst (.cons (.tup (.cons (.con (.str "num")) .nil)) .nil)) (.idx (.var 0) (.con (.int (1)))))) .nil)
def f16_4 : Cs := (.cons (.ifS (.cmp .Eq (.idx (.var 0) (.con (.int (0)))) (.con (.str "row"))) f16_3 .nil) f16_2)
/-- parts -/
def f16 : FI := ⟨"_law_parts", ["_law_kind_here"], ["_law_kind_here"],
    f16_4⟩
def f17_0 : Cs := (.cons (.ret (.var 1)) .nil)
def f17_1 : Cs := (.cons (.set 1 (.idx (.lst (.cons (.tup (.cons (.con (.str "row")) (.cons (.bin .Add (.con (.int (1))) (.call 13 (.cons (.var 0) (.cons (.con (.int (6))) .nil)))) .nil))) (.cons (.tup (.cons (.con (.str "record")) (.cons (.tup (.cons (.call 14 (.cons (.var 0) .nil)) (.cons (.call 14 (.cons (.var 0) .nil)) .nil))) .nil))) .nil))) (.call 13 (.cons (.var 0) (.cons (.con (.int (2))) .nil))))) .nil)
def f17_2 : Cs := (.cons (.whl (.cmp .Eq (.call 16 (.cons (.var 1) .nil)) (.lst .nil)) f17_1) f17_0)
def f17_3 : Cs := (.cons (.set 1 (.call 15 (.cons (.var 0) .nil))) f17_2)
/-- whole_kind -/
def f17 : FI := ⟨"_law_whole_kind", ["_law_box_here", "_law_kind_here"], ["_law_box_here"],
    f17_3⟩
def f18_0 : Cs := (.cons (.ret (.lst (.cons (.var 1) (.cons (.var 8) (.cons (.lst (.cons (.var 6) (.cons (.idx (.var 7) (.var 8)) .nil))) .nil))))) .nil)
def f18_1 : Cs := (.cons (.ret (.lst (.cons (.var 1) (.cons (.var 8) (.cons (.lst (.cons (.var 6) .nil)) .nil))))) .nil)
def f18_2 : Cs := (.cons (.ifS (.cmp .Eq (.var 1) (.con (.str "get"))) f18_1 .nil) f18_0)
def f18_3 : Cs := (.cons (.set 8 (.call 13 (.cons (.var 0) (.cons (.bi .len (.cons (.var 7) .nil)) .nil)))) f18_2)
def f18_4 : Cs := (.cons (.ret (.lst (.cons (.var 1) (.cons (.var 6) (.cons (.var 7) .nil))))) .nil)
def f18_5 : Cs := (.cons (.ifS (.cmp .Eq (.var 1) (.con (.str "make"))) f18_4 .nil) f18_3)
def f18_6 : Cs := (.cons (.set 7 (.call 16 (.cons (.var 6) .nil))) f18_5)
def f18_7 : Cs := (.cons (.set 6 (.call 17 (.cons (.var 0) .nil))) f18_6)
def f18_8 : Cs := (.cons (.ret (.lst (.cons (.var 1) (.cons (.con .non) (.cons (.lst (.cons (.var 2) (.cons (.var 2) .nil))) .nil))))) .nil)
def f18_9 : Cs := (.cons (.ifS (.cmp .NotIn (.var 1) (.tup (.cons (.con (.str "make")) (.cons (.con (.str "get")) (.cons (.con (.str "put")) .nil))))) f18_8 .nil) f18_7)
def f18_10 : Cs := (.cons (.ret (.lst (.cons (.var 1) (.cons (.con .non) (.cons (.idx (.var 5) (.var 1)) .nil))))) .nil)
def f18_11 : Cs := (.cons (.ifS (.cmp .In (.var 1) (.var 5)) f18_10 .nil) f18_9)
def f18_12 : Cs := (.cons (.ex (.bm .update (.var 5) (.cons (.dsp (.cons (.con (.str "pick")) (.cons (.lst (.cons (.var 4) (.cons (.var 2) .nil))) (.cons (.con (.str "lay")) (.cons (.lst (.cons (.var 4) (.cons (.var 2) (.cons (.var 2) .nil)))) .nil))))) .nil))) f18_11)
def f18_13 : Cs := (.cons (.set 5 (.dsp (.cons (.con (.str "neg")) (.cons (.lst (.cons (.var 2) .nil)) (.cons (.con (.str "and")) (.cons (.lst (.cons (.var 3) (.cons (.var 3) .nil))) (.cons (.con (.str "or")) (.cons (.lst (.cons (.var 3) (.cons (.var 3) .nil))) (.cons (.con (.str "not")) (.cons (.lst (.cons (.var 3) .nil)) (.cons (.con (.str "copy")) (.cons (.lst (.cons (.call 15 (.cons (.var 0) .nil)) .nil)) .nil)))))))))))) f18_12)
def f18_14 : Cs := (.cons (.set 4 (.tup (.cons (.con (.str "row")) (.cons (.bin .Add (.con (.int (1))) (.call 13 (.cons (.var 0) (.cons (.con (.int (6))) .nil)))) .nil)))) f18_13)
def f18_15 : Cs := (.cons (.set 3 (.tup (.cons (.con (.str "truth")) .nil))) f18_14)
def f18_16 : Cs := (.cons (.set 2 (.tup (.cons (.con (.str "num")) .nil))) f18_15)
/-- good -/
def f18 : FI := ⟨"_law_good", ["_law_box_here", "_law_op", "_law_num", "_law_truth", "_law_row", "_law_plain_here", "_law_kind_here", "_law_parts_here", "_law_at"], ["_law_box_here", "_law_op"],
    f18_16⟩
def f19_0 : Cs := (.cons (.ret (.lst (.cons (.var 2) (.cons (.var 3) (.cons (.var 4) .nil))))) .nil)
def f19_1 : Cs := (.cons (.set 4 (.bin .Add (.bin .Add (.slc (.var 4) false true (.con .non) (.var 6)) (.lst (.cons (.call 15 (.cons (.var 0) .nil)) .nil))) (.slc (.var 4) true false (.bin .Add (.var 6) (.con (.int (1)))) (.con .non)))) .nil)
def f19_2 : Cs := (.cons (.set 6 (.call 13 (.cons (.var 0) (.cons (.bi .len (.cons (.var 4) .nil)) .nil)))) f19_1)
def f19_3 : Cs := (.cons (.ifS (.cmp .Gt (.var 5) (.con (.int (3)))) f19_2 .nil) f19_0)
def f19_4 : Cs := (.cons (.set 4 (.lrev (.var 4))) .nil)
def f19_5 : Cs := (.cons (.ifS (.cmp .Eq (.var 5) (.con (.int (3)))) f19_4 .nil) f19_3)
def f19_6 : Cs := (.cons (.set 4 (.slc (.var 4) true false (.con (.int (1))) (.con .non))) .nil)
def f19_7 : Cs := (.cons (.ifS (.cmp .Eq (.var 5) (.con (.int (2)))) f19_6 .nil) f19_5)
def f19_8 : Cs := (.cons (.set 4 (.bin .Add (.var 4) (.lst (.cons (.call 15 (.cons (.var 0) .nil)) .nil)))) .nil)
def f19_9 : Cs := (.cons (.ifS (.cmp .Eq (.var 5) (.con (.int (1)))) f19_8 .nil) f19_7)
def f19_10 : Cs := (.cons (.set 3 (.idx (.lst (.cons (.con .non) (.cons (.con (.int (0))) (.cons (.con (.int (1))) (.cons (.una .USub (.con (.int (1)))) (.cons (.con (.bl true)) (.cons (.con (.bl false)) (.cons (.con (.int (7))) (.cons (.con (.str "x")) (.cons (.tup (.cons (.con (.str "num")) .nil)) (.cons (.tup (.cons (.con (.str "row")) (.cons (.con (.int (2))) .nil))) (.cons (.lst .nil) (.cons (.dnew false) .nil))))))))))))) (.call 13 (.cons (.var 0) (.cons (.con (.int (12))) .nil))))) .nil)
def f19_11 : Cs := (.cons (.ifS (.cmp .Eq (.var 5) (.con (.int (0)))) f19_10 .nil) f19_9)
def f19_12 : Cs := (.cons (.set 5 (.call 13 (.cons (.var 0) (.cons (.con (.int (7))) .nil)))) f19_11)
def f19_13 : Cs := (.cons (.setT [2, 3, 4] (.var 1)) f19_12)
/-- spoilt -/
def f19 : FI := ⟨"_law_spoilt", ["_law_box_here", "_law_one", "_law_op", "_law_extra", "_law_kinds", "_law_way", "_law_at"], ["_law_box_here", "_law_one"],
    f19_13⟩
def f20_0 : Cs := (.cons (.ret (.idx (.var 2) (.var 0))) .nil)
def f20_1 : Cs := (.cons (.ret (.con .non)) .nil)
def f20_2 : Cs := (.cons (.ifS (.or_ (.cons (.not_ (.isi (.var 0) true [.b .int])) (.cons (.isi (.var 0) true [.b .bool]) (.cons (.not_ (.chain .LtE .Lt (.con (.int (0))) (.var 0) (.bi .len (.cons (.var 2) .nil)))) .nil)))) f20_1 .nil) f20_0)
def f20_3 : Cs := (.cons (.set 2 (.call 16 (.cons (.var 1) .nil))) f20_2)
/-- due_part -/
def f20 : FI := ⟨"_law_due_part", ["_law_extra", "_law_kind_here", "_law_parts_here"], ["_law_extra", "_law_kind_here"],
    f20_3⟩
def f21_0 : Cs := (.cons (.ret (.and_ (.cons (.isi (.var 0) true [.b .tuple]) (.cons (.cmp .Eq (.bi .len (.cons (.var 0) .nil)) (.con (.int (2)))) (.cons (.cmp .In (.idx (.var 0) (.con (.int (0)))) (.tup (.cons (.con (.str "row")) (.cons (.con (.str "record")) .nil)))) .nil))))) .nil)
/-- is_whole_kind -/
def f21 : FI := ⟨"_law_is_whole_kind", ["_law_thing"], ["_law_thing"],
    f21_0⟩
def f22_0 : Cs := (.cons (.ret (.con .non)) .nil)
def f22_1 : Cs := (.cons (.ret (.idx (.var 2) (.con (.int (0))))) .nil)
def f22_2 : Cs := (.cons (.ifS (.and_ (.cons (.cmp .Eq (.var 0) (.con (.str "put"))) (.cons (.cmp .Eq (.bi .len (.cons (.var 2) .nil)) (.con (.int (2)))) (.cons (.cmp .Eq (.call 20 (.cons (.var 1) (.cons (.idx (.var 2) (.con (.int (0)))) .nil))) (.idx (.var 2) (.con (.int (1))))) .nil)))) f22_1 .nil) f22_0)
def f22_3 : Cs := (.cons (.ret (.call 20 (.cons (.var 1) (.cons (.idx (.var 2) (.con (.int (0)))) .nil)))) .nil)
def f22_4 : Cs := (.cons (.ifS (.and_ (.cons (.cmp .Eq (.var 0) (.con (.str "get"))) (.cons (.cmp .Eq (.bi .len (.cons (.var 2) .nil)) (.con (.int (1)))) .nil))) f22_3 .nil) f22_2)
def f22_5 : Cs := (.cons (.ret (.idx (.lst (.cons (.con .non) (.cons (.var 1) .nil))) (.bi .int1 (.cons (.and_ (.cons (.call 21 (.cons (.var 1) .nil)) (.cons (.cmp .Eq (.call 16 (.cons (.var 1) .nil)) (.var 2)) .nil))) .nil)))) .nil)
def f22_6 : Cs := (.cons (.ifS (.cmp .Eq (.var 0) (.con (.str "make"))) f22_5 .nil) f22_4)
/-- due_whole -/
def f22 : FI := ⟨"_law_due_whole", ["_law_op", "_law_extra", "_law_kinds"], ["_law_op", "_law_extra", "_law_kinds"],
    f22_6⟩
def f23_0 : Cs := (.cons (.ret (.con .non)) .nil)
def f23_1 : Cs := (.cons (.ret (.idx (.lst (.cons (.con .non) (.cons (.var 3) .nil))) (.bi .int1 (.cons (.cmp .Eq (.var 2) (.lst (.cons (.var 3) (.cons (.var 3) .nil)))) .nil)))) .nil)
def f23_2 : Cs := (.cons (.ifS (.cmp .In (.var 0) (.tup (.cons (.con (.str "add")) (.cons (.con (.str "sub")) (.cons (.con (.str "mul")) (.cons (.con (.str "div")) (.cons (.con (.str "mod")) .nil))))))) f23_1 .nil) f23_0)
def f23_3 : Cs := (.cons (.ret (.idx (.lst (.cons (.con .non) (.cons (.var 3) .nil))) (.bi .int1 (.cons (.cmp .Eq (.var 2) (.lst (.cons (.var 3) .nil))) .nil)))) .nil)
def f23_4 : Cs := (.cons (.ifS (.cmp .Eq (.var 0) (.con (.str "neg"))) f23_3 .nil) f23_2)
def f23_5 : Cs := (.cons (.ret (.idx (.lst (.cons (.con .non) (.cons (.var 4) .nil))) (.bi .int1 (.cons (.cmp .Eq (.var 2) (.lst (.cons (.var 4) .nil))) .nil)))) .nil)
def f23_6 : Cs := (.cons (.ifS (.cmp .Eq (.var 0) (.con (.str "not"))) f23_5 .nil) f23_4)
def f23_7 : Cs := (.cons (.ret (.idx (.lst (.cons (.con .non) (.cons (.var 4) .nil))) (.bi .int1 (.cons (.cmp .Eq (.var 2) (.lst (.cons (.var 4) (.cons (.var 4) .nil)))) .nil)))) .nil)
def f23_8 : Cs := (.cons (.ifS (.cmp .In (.var 0) (.tup (.cons (.con (.str "and")) (.cons (.con (.str "or")) .nil)))) f23_7 .nil) f23_6)
def f23_9 : Cs := (.cons (.ret (.idx (.lst (.cons (.con .non) (.cons (.var 4) .nil))) (.bi .int1 (.cons (.cmp .Eq (.var 2) (.lst (.cons (.var 3) (.cons (.var 3) .nil)))) .nil)))) .nil)
def f23_10 : Cs := (.cons (.ifS (.cmp .In (.var 0) (.tup (.cons (.con (.str "less")) (.cons (.con (.str "same")) .nil)))) f23_9 .nil) f23_8)
def f23_11 : Cs := (.cons (.ret (.idx (.lst (.cons (.con .non) (.cons (.idx (.var 2) (.con (.int (0)))) .nil))) (.bi .int1 (.cons (.cmp .Eq (.slc (.var 2) true false (.con (.int (1))) (.con .non)) (.lst (.cons (.var 3) (.cons (.var 3) .nil)))) .nil)))) .nil)
def f23_12 : Cs := (.cons (.ret (.idx (.lst (.cons (.con .non) (.cons (.var 3) .nil))) (.bi .int1 (.cons (.cmp .Eq (.slc (.var 2) true false (.con (.int (1))) (.con .non)) (.lst (.cons (.var 3) .nil))) .nil)))) .nil)
def f23_13 : Cs := (.cons (.ifS (.cmp .Eq (.var 0) (.con (.str "pick"))) f23_12 .nil) f23_11)
def f23_14 : Cs := (.cons (.ifS (.and_ (.cons (.cmp .In (.var 0) (.tup (.cons (.con (.str "pick")) (.cons (.con (.str "lay")) .nil)))) (.cons (.cmp .NotEq (.slc (.var 2) false true (.con .non) (.con (.int (1)))) (.lst .nil)) (.cons (.cmp .Eq (.idx (.idx (.var 2) (.con (.int (0)))) (.con (.int (0)))) (.con (.str "row"))) .nil)))) f23_13 .nil) f23_10)
def f23_15 : Cs := (.cons (.ret (.idx (.var 2) (.con (.int (0))))) .nil)
def f23_16 : Cs := (.cons (.ifS (.and_ (.cons (.cmp .Eq (.var 0) (.con (.str "copy"))) (.cons (.cmp .Eq (.bi .len (.cons (.var 2) .nil)) (.con (.int (1)))) .nil))) f23_15 .nil) f23_14)
def f23_17 : Cs := (.cons (.ret (.con .non)) .nil)
def f23_18 : Cs := (.cons (.ifS (.cmp .IsNot (.var 1) (.con .non)) f23_17 .nil) f23_16)
def f23_19 : Cs := (.cons (.ret (.call 22 (.cons (.var 0) (.cons (.var 1) (.cons (.var 2) .nil))))) .nil)
def f23_20 : Cs := (.cons (.ifS (.cmp .In (.var 0) (.tup (.cons (.con (.str "make")) (.cons (.con (.str "get")) (.cons (.con (.str "put")) .nil))))) f23_19 .nil) f23_18)
def f23_21 : Cs := (.cons (.set 4 (.tup (.cons (.con (.str "truth")) .nil))) f23_20)
def f23_22 : Cs := (.cons (.set 3 (.tup (.cons (.con (.str "num")) .nil))) f23_21)
/-- due -/
def f23 : FI := ⟨"_law_due", ["_law_op", "_law_extra", "_law_kinds", "_law_num", "_law_truth"], ["_law_op", "_law_extra", "_law_kinds"],
    f23_22⟩
def f24_0 : Cs := (.cons (.ret (.and_ (.cons (.isi (.var 0) true [.b .bool]) (.cons (.cmp .Eq (.var 0) (.var 1)) .nil)))) .nil)
/-- truly -/
def f24 : FI := ⟨"_law_truly", ["_law_found", "_law_due_here"], ["_law_found", "_law_due_here"],
    f24_0⟩
def f25_0 : Cs := (.cons (.ret (.con (.bl true))) .nil)
def f25_1 : Cs := (.cons (.ret (.con (.bl false))) .nil)
def f25_2 : Cs := (.cons (.ifS (.or_ (.cons (.cmp .NotEq (.call 10 (.cons (.var 5) (.cons (.var 6) (.cons (.var 8) .nil)))) (.call 23 (.cons (.var 5) (.cons (.var 6) (.cons (.var 7) .nil))))) (.cons (.cmp .NotEq (.var 8) (.var 7)) .nil))) f25_1 .nil) .nil)
def f25_3 : Cs := (.cons (.set 8 (.bi .lst1 (.cons (.var 7) .nil))) f25_2)
def f25_4 : Cs := (.cons (.ret (.con (.bl false))) .nil)
def f25_5 : Cs := (.cons (.ifS (.or_ (.cons (.not_ (.call 24 (.cons (.call 4 (.cons (.var 5) .nil)) (.cons (.cmp .In (.var 5) (.var 1)) .nil)))) (.cons (.not_ (.call 24 (.cons (.call 5 (.cons (.var 5) .nil)) (.cons (.cmp .In (.var 5) (.var 2)) .nil)))) .nil))) f25_4 .nil) f25_3)
def f25_6 : Cs := (.cons (.set 5 (.idx (.lst (.cons (.con .non) (.cons (.con (.int (5))) (.cons (.con (.bl true)) (.cons (.con (.str "Copy")) (.cons (.con (.str "")) (.cons (.con (.str "call")) (.cons (.con (.str "log")) (.cons (.con (.str "tick")) (.cons (.lst (.cons (.con (.str "add")) .nil)) (.cons (.tup (.cons (.con (.str "add")) .nil)) (.cons (.dnew false) (.cons (.con (.str "adds")) .nil))))))))))))) (.call 13 (.cons (.var 4) (.cons (.con (.int (12))) .nil))))) .nil)
def f25_7 : Cs := (.cons (.ifS (.cmp .Eq (.call 13 (.cons (.var 4) (.cons (.con (.int (5))) .nil))) (.con (.int (0)))) f25_6 .nil) f25_5)
def f25_8 : Cs := (.cons (.setT [5, 6, 7] (.call 19 (.cons (.var 4) (.cons (.lst (.cons (.var 5) (.cons (.var 6) (.cons (.var 7) .nil)))) .nil)))) f25_7)
def f25_9 : Cs := (.cons (.ret (.con (.bl false))) .nil)
def f25_10 : Cs := (.cons (.ifS (.or_ (.cons (.cmp .NotEq (.call 10 (.cons (.var 5) (.cons (.var 6) (.cons (.bi .tup1 (.cons (.var 7) .nil)) .nil)))) (.call 23 (.cons (.var 5) (.cons (.var 6) (.cons (.var 7) .nil))))) (.cons (.cmp .Is (.call 23 (.cons (.var 5) (.cons (.var 6) (.cons (.var 7) .nil)))) (.con .non)) .nil))) f25_9 .nil) f25_8)
def f25_11 : Cs := (.cons (.setT [5, 6, 7] (.call 18 (.cons (.var 4) (.cons (.idx (.bin .Add (.var 1) (.var 2)) (.call 13 (.cons (.var 4) (.cons (.con (.int (17))) .nil)))) .nil)))) f25_10)
def f25_12 : Cs := (.cons (.set 4 (.call 12 (.cons (.var 0) (.cons (.var 3) .nil)))) f25_11)
def f25_13 : Cs := (.cons (.forS (.nm 3) (.rng1 (.bi .max2 (.cons (.con (.int (2))) (.cons (.bi .min2 (.cons (.bi .len (.cons (.var 0) .nil)) (.cons (.con (.int (60))) .nil))) .nil)))) f25_12) f25_0)
def f25_14 : Cs := (.cons (.set 2 (.lst (.cons (.con (.str "mul")) (.cons (.con (.str "div")) (.cons (.con (.str "mod")) (.cons (.con (.str "pick")) (.cons (.con (.str "lay")) .nil))))))) f25_13)
def f25_15 : Cs := (.cons (.set 1 (.lst (.cons (.con (.str "copy")) (.cons (.con (.str "neg")) (.cons (.con (.str "add")) (.cons (.con (.str "sub")) (.cons (.con (.str "less")) (.cons (.con (.str "same")) (.cons (.con (.str "and")) (.cons (.con (.str "or")) (.cons (.con (.str "not")) (.cons (.con (.str "make")) (.cons (.con (.str "get")) (.cons (.con (.str "put")) .nil)))))))))))))) f25_14)
/-- law -/
def f25 : FI := ⟨"law", ["_law_script", "_law_pure", "_law_risky", "_law_k", "_law_box_here", "_law_op", "_law_extra", "_law_kinds", "_law_handed"], ["_law_script"],
    f25_15⟩
def gv : Nat → D
  | 0 => (.tup [(.str "num")])
  | 1 => (.tup [(.str "truth")])
  | 2 => (.int (6))
  | 3 => (.int (4))
  | 4 => (.tup [(.str "copy"), (.str "neg"), (.str "add"), (.str "sub"), (.str "less"), (.str "same"), (.str "and"), (.str "or"), (.str "not"), (.str "make"), (.str "get"), (.str "put")])
  | 5 => (.tup [(.str "mul"), (.str "div"), (.str "mod"), (.str "pick"), (.str "lay")])
  | _ => .non
def G : Gi := ⟨[f0, f1, f2, f3, f4, f5, f6, f7, f8, f9, f10, f11, f12, f13, f14, f15, f16, f17, f18, f19, f20, f21, f22, f23, f24, f25], gv, fun _ => ""⟩
def t0 : T0 := ⟨["is_whole", "is_plain", "is_kind", "parts_of", "is_pure", "is_risky", "part_at", "whole_kind", "placed_kind", "plain_kinds", "result_kind", "_law_mixed", "_law_box", "_law_take", "_law_plain", "_law_kind", "_law_parts", "_law_whole_kind", "_law_good", "_law_spoilt", "_law_due_part", "_law_is_whole_kind", "_law_due_whole", "_law_due", "_law_truly", "law"], ["NUM", "TRUTH", "MOST_NUMBERS", "MOST_FIELDS", "PURE", "RISKY"], ["all", "bool", "int", "isinstance", "len", "list", "max", "min", "range", "reversed", "tuple"]⟩
theorem c0 : fnB t0 f0 (stm 5) = true := by decide +kernel
theorem c1 : fnB t0 f1 (stm 6) = true := by decide +kernel
theorem c2 : fnB t0 f2 (stm 7) = true := by decide +kernel
theorem c3 : fnB t0 f3 (stm 8) = true := by decide +kernel
theorem c4 : fnB t0 f4 (stm 12) = true := by decide +kernel
theorem c5 : fnB t0 f5 (stm 13) = true := by decide +kernel
theorem c6 : fnB t0 f6 (stm 14) = true := by decide +kernel
theorem c7 : fnB t0 f7 (stm 15) = true := by decide +kernel
theorem c8 : fnB t0 f8 (stm 16) = true := by decide +kernel
theorem c9 : fnB t0 f9 (stm 17) = true := by decide +kernel
theorem c10 : fnB t0 f10 (stm 18) = true := by decide +kernel
theorem c11 : fnB t0 f11 (stm 20) = true := by decide +kernel
theorem c12 : fnB t0 f12 (stm 21) = true := by decide +kernel
theorem c13 : fnB t0 f13 (stm 22) = true := by decide +kernel
theorem c14 : fnB t0 f14 (stm 23) = true := by decide +kernel
theorem c15 : fnB t0 f15 (stm 24) = true := by decide +kernel
theorem c16 : fnB t0 f16 (stm 25) = true := by decide +kernel
theorem c17 : fnB t0 f17 (stm 26) = true := by decide +kernel
theorem c18 : fnB t0 f18 (stm 27) = true := by decide +kernel
theorem c19 : fnB t0 f19 (stm 28) = true := by decide +kernel
theorem c20 : fnB t0 f20 (stm 29) = true := by decide +kernel
theorem c21 : fnB t0 f21 (stm 30) = true := by decide +kernel
theorem c22 : fnB t0 f22 (stm 31) = true := by decide +kernel
theorem c23 : fnB t0 f23 (stm 32) = true := by decide +kernel
theorem c24 : fnB t0 f24 (stm 33) = true := by decide +kernel
theorem c25 : fnB t0 f25 (stm 34) = true := by decide +kernel
end My

namespace My
open PySem L2 Mi
/-- nothing else is changed -/
def Fr (r : Nat) (S S' : Sto) : Prop := ∀ n o, n ≠ r → S[n]? = some o → S'[n]? = some o
theorem Fr.refl (r : Nat) (S : Sto) : Fr r S S := fun n o _ h => h
theorem Fr.app {r : Nat} {S : Sto} (T : Sto) : Fr r S (S ++ T) := fun n o _ h => by
  rw [List.getElem?_append_left (List.getElem?_eq_some_iff.mp h).1]; exact h
theorem Fr.trans {r : Nat} {S S1 S2 : Sto} (a : Fr r S S1) (b : Fr r S1 S2) : Fr r S S2 := fun n o hn h => b n o hn (a n o hn h)
theorem Fr.set {r : Nat} {S : Sto} {o : MO} : Fr r S (S.set r o) := fun n o hn h => by
  rw [List.getElem?_set_ne (Ne.symm hn)]; exact h
theorem Fr.ext {r : Nat} {S S' : Sto} (h : Ext S S') : Fr r S S' := by
  obtain ⟨T, rfl⟩ := h
  exact Fr.app T
/-- a box of drawn numbers -/
def Bx (r : Nat) (S : Sto) : Prop := ∃ c l n : Int, S[r]? = some (.lst [.int c, .int l, .int n])
theorem Bx.ext {r : Nat} {S S' : Sto} (h : Bx r S) (e : Ext S S') : Bx r S' := by
  obtain ⟨c, l, n, h⟩ := h
  exact ⟨c, l, n, e.at h⟩
theorem Bx.app {r : Nat} {S : Sto} (h : Bx r S) (T : Sto) : Bx r (S ++ T) := h.ext (Ext_app _ _)
theorem Bx.lt {r : Nat} {S : Sto} (h : Bx r S) : r < S.length := by
  obtain ⟨c, l, n, h⟩ := h
  exact (List.getElem?_eq_some_iff.mp h).1
def Gb (r : Nat) (S S' : Sto) : Prop := Bx r S' ∧ Fr r S S'
theorem Gb.trans {r : Nat} {S S1 S2 : Sto} (a : Gb r S S1) (b : Gb r S1 S2) : Gb r S S2 := ⟨b.1, a.2.trans b.2⟩
theorem Gb.ext {r : Nat} {S S1 S2 : Sto} (a : Gb r S S1) (b : Ext S1 S2) : Gb r S S2 := ⟨a.1.ext b, a.2.trans (.ext b)⟩
theorem Gb.of {r : Nat} {S S1 : Sto} (a : Bx r S) (b : Ext S S1) : Gb r S S1 := ⟨a.ext b, .ext b⟩
def mix1 (c k : Int) : Int := (c % 2147483629 * 48271 + k * 7919 + 104729) % 2147483629
def mix2 (c k : Int) : Int := (mix1 c k * mix1 c k % 2147483629 * 16807 + k * 104729 + 11) % 2147483587
def mixV (c k : Int) : Int := mix2 c k * mix2 c k % 2147483587
theorem mixed_ok (n : Nat) (c k : Int) (S : Sto) : fnN G (n + 1) 11 [.int c, .int k] S = .ok (.int (mixV c k)) S := by
  have h : (fnN G (n + 1) 11 [.int c, .int k] S).Ok fun d S' => S' = S ∧ d = .int (mixV c k) := by
    refine run_ok f11 rfl rfl fun Y hf hg => ?_
    simp [f11]
    refine w_set rfl ?_
    simp [-Out.bind, binD_mod, binD_mulL, binD_mulR, small_mod, small_lit]
    refine w_set rfl ?_
    simp [-Out.bind, binD_mod, binD_mulL, binD_mulR, small_mod, small_lit]
    refine w_ret rfl ?_
    simp [-Out.bind, binD_mod, binD_mulL, binD_mulR, small_mod, small_lit, mixV, mix2, mix1]
  obtain ⟨d, S', e, rfl, rfl⟩ := h.ex
  exact e
theorem pow18 {S : Sto} : binD .Pow (.int 10) (.int 18) S = .ok (.int 1000000000000000000) S := by
  have h : binD .Pow (.int 10) (.int 18) S = (if (0 : Int) ≤ 18 ∧ (18 : Int) ≤ 1000000 ∧ (10 : Int).natAbs < 2 ^ 64 then Out.ok (.int ((10 : Int) ^ (18 : Int).toNat)) S else .no) := rfl
  rw [h, if_pos (by decide)]
  rfl
theorem set_at {S : Sto} {r : Nat} {xs : List D} {k : Int} {j : Nat} {x : D} (h : S[r]? = some (.lst xs)) (hj : ixN xs.length k = some j) : setD (.ref r) (.int k) x S = some (S.set r (.lst (xs.set j x))) := by
  simp [setD, h, hj]
theorem ix3_1 : ixN 3 1 = some 1 := rfl
theorem ix3_2 : ixN 3 2 = some 2 := rfl
theorem at3_0 {a b c : D} : atI [a, b, c] 0 = some a := rfl
theorem at3_1 {a b c : D} : atI [a, b, c] 1 = some b := rfl
theorem at3_2 {a b c : D} : atI [a, b, c] 2 = some c := rfl
/-- one number is drawn -/
theorem take_ok (n : Nat) {r : Nat} {S : Sto} {m : Int} (h : Bx r S) (h0 : 0 < m) (h1 : m < 18446744073709551616) : (fnN G (n + 2) 13 [.ref r, .int m] S).Ok fun v S' => Gb r S S' ∧ ∃ x : Int, 0 ≤ x ∧ x < m ∧ v = .int x := by
  obtain ⟨c, l, k, hr⟩ := h
  have hlt := (List.getElem?_eq_some_iff.mp hr).1
  generalize hF : fnN G (n + 2) = F
  refine run_okF hF f13 rfl rfl fun Y hf hg => ?_
  simp [f13]
  refine w_setIx rfl ?_
  have e2 : setD (.ref r) (.int 2) (.int (k + 1)) S = some (S.set r (.lst [.int c, .int l, .int (k + 1)])) := set_at hr ix3_2
  simp [-Out.bind, hr, at3_2, e2]
  generalize hS1 : S.set r (.lst [.int c, .int l, .int (k + 1)]) = S1
  have hr1 : S1[r]? = some (.lst [.int c, .int l, .int (k + 1)]) := by rw [← hS1, List.getElem?_set_self hlt]
  have f3 : Fr r S S1 := by rw [← hS1]; exact Fr.set
  refine w_if rfl ?_
  have fin : (execs Y f13_0 [some (.ref r), some (.int m), none] S1).F ⟨fun _ S_1 => (Gb r S S_1 ∧ ∃ x : Int, 0 ≤ x ∧ x < m ∧ D.non = .int x), fun v S' => Gb r S S' ∧ ∃ x : Int, 0 ≤ x ∧ x < m ∧ v = .int x, fun _ _ => False, fun _ _ => False⟩ := by
    refine w_ret rfl ?_
    simp [-Out.bind, hr1, at3_0, at3_2, hf, mixed_ok, binD_mod, h0]
    exact ⟨⟨⟨_, _, _, hr1⟩, f3⟩, Int.emod_nonneg _ (by omega), Int.emod_lt_of_pos _ h0⟩
  by_cases hc : (1000000000000000000 : Int) ≤ c
  · by_cases hl : 0 < l
    · simp [-Out.bind, hr1, at3_0, at3_1, pow18, hc, hl]
      refine w_set rfl ?_
      simp [-Out.bind, hr1, at3_1, binD_mod, h0]
      refine w_setIx rfl ?_
      have e3 : setD (.ref r) (.int 1) (.int (l / m)) S1 = some (S1.set r (.lst [.int c, .int (l / m), .int (k + 1)])) := set_at hr1 ix3_1
      simp [-Out.bind, hr1, at3_1, binD_fdiv, h0, h1, e3]
      refine w_ret rfl ?_
      simp [-Out.bind]
      have hlt1 := (List.getElem?_eq_some_iff.mp hr1).1
      exact ⟨⟨⟨_, _, _, List.getElem?_set_self hlt1⟩, f3.trans Fr.set⟩, Int.emod_nonneg _ (by omega), Int.emod_lt_of_pos _ h0⟩
    · simp [-Out.bind, hr1, at3_0, at3_1, pow18, hc, hl]
      simpa using fin
  · simp [-Out.bind, hr1, at3_0, at3_1, pow18, hc]
    simpa using fin
/-- a new box -/
theorem box_ok (n : Nat) {cs : List Int} {k : Int} (h0 : 0 ≤ k) (S : Sto) : (fnN G (n + 1) 12 [.rol (cs.map .int), .int k] S).Ok fun v S' => ∃ r, v = .ref r ∧ Bx r S' ∧ Ext S S' := by
  generalize hF : fnN G (n + 1) = F
  refine run_okF hF f12 rfl rfl fun Y hf hg => ?_
  simp [f12]
  refine w_set rfl ?_
  simp [-Out.bind]
  refine w_if rfl ?_
  have fin : ∀ x : Int, (execs Y f12_0 [some (.rol (cs.map .int)), some (.int k), some (.int x)] S).F ⟨fun _ S' => ∃ r, D.non = .ref r ∧ Bx r S' ∧ Ext S S', fun v S' => ∃ r, v = .ref r ∧ Bx r S' ∧ Ext S S', fun _ _ => False, fun _ _ => False⟩ := fun x => by
    refine w_ret rfl ?_
    simp [-Out.bind, binD_mulL, small_lit, lim]
    exact ⟨x, x, 100 * k, by simp⟩
  by_cases hk : k < cs.length
  · obtain ⟨d, hd, e⟩ := atI_mem (xs := cs.map D.int) (k := k) h0 (by simpa using hk)
    obtain ⟨x, _, rfl⟩ := List.mem_map.mp hd
    simp [-Out.bind, bi_len, hk]
    refine w_set rfl ?_
    simp [-Out.bind, e]
    simpa using fin x
  · simp [-Out.bind, bi_len, hk]
    simpa using fin 0
end My

namespace My
open PySem L2 Mi
/-- kinds -/
inductive Kd where
  | num | truth | row (n : Nat) | rcd (bs : List Bool)
def pD : Bool → D
  | false => .tup [.str "num"]
  | true => .tup [.str "truth"]
def Kd.D : Kd → Mi.D
  | .num => pD false
  | .truth => pD true
  | .row n => .tup [.str "row", .int n]
  | .rcd bs => .tup [.str "record", .tup (bs.map pD)]
def Kd.ok : Kd → Prop
  | .num => True
  | .truth => True
  | .row n => 1 ≤ n ∧ n ≤ 6
  | .rcd bs => 1 ≤ bs.length ∧ bs.length ≤ 4
/-- its parts: truths or numbers -/
def Kd.parts : Kd → List Bool
  | .num => []
  | .truth => []
  | .row n => List.replicate n false
  | .rcd bs => bs
theorem Kd.parts_len {K : Kd} (h : K.ok) : K.parts.length ≤ 6 := by
  cases K with
  | num => simp [Kd.parts]
  | truth => simp [Kd.parts]
  | row n => simp only [Kd.parts, List.length_replicate]; exact h.2
  | rcd bs => simp only [Kd.parts]; have := h.2; omega
/-- numbers, truths, texts, None -/
theorem eq_ii {S : Sto} {i j : Int} : eqD S (.int i) (.int j) = some (i == j) := by
  rw [eqD_of (x := .int i) (y := .int j) rfl rfl, q_int_int]
theorem eq_ss {S : Sto} {a b : String} : eqD S (.str a) (.str b) = some (decide (a = b)) := by
  rw [eqD_of (x := .str a) (y := .str b) (by simp [toPy]) (by simp [toPy]), q_str_str, ofStr_beq]
theorem rep_flat {α : Type} (x : α) : ∀ n : Nat, (List.replicate n [x]).flatten = List.replicate n x
  | 0 => rfl
  | n + 1 => by rw [List.replicate_succ, List.flatten_cons, rep_flat x n]; rfl
theorem binD_rep {S : Sto} {r : Nat} {xs : List D} {k : Int} (h : S[r]? = some (.lst xs)) (h1 : xs.length ≤ 1000) (h2 : 0 ≤ k) (h3 : k ≤ 1000) : binD .Mult (.ref r) (.int k) S = .ok (.ref S.length) (S ++ [.lst (List.replicate k.toNat xs).flatten]) := by
  have e : binD .Mult (.ref r) (.int k) S = match lstAt S r with
    | some xs => if xs.length ≤ 1000 ∧ -1000 ≤ k ∧ k ≤ 1000 then new S (.lst (List.replicate k.toNat xs).flatten) else .no
    | none => .no := rfl
  have e2 : lstAt S r = some xs := by simp [lstAt, h]
  rw [e, e2]
  simp only
  rw [if_pos ⟨h1, by omega, h3⟩]
  rfl
/-- the parts of a kind, told by the law -/
theorem parts_ok (n : Nat) {K : Kd} (hK : K.ok) (S : Sto) : (fnN G (n + 1) 16 [K.D] S).Ok fun v S' => ∃ r, v = .ref r ∧ S'[r]? = some (.lst (K.parts.map pD)) ∧ Ext S S' := by
  generalize hF : fnN G (n + 1) = F
  refine run_okF hF f16 rfl rfl fun Y hf hg => ?_
  simp [f16]
  refine w_if rfl ?_
  cases K with
  | num =>
    simp [-Out.bind, Kd.D, pD, atI, ixN, eq_ss]
    refine w_if rfl ?_
    simp [-Out.bind, Kd.D, pD, atI, ixN, eq_ss]
    refine w_ret rfl ?_
    simp [-Out.bind, lim, Kd.parts]
  | truth =>
    simp [-Out.bind, Kd.D, pD, atI, ixN, eq_ss]
    refine w_if rfl ?_
    simp [-Out.bind, Kd.D, pD, atI, ixN, eq_ss]
    refine w_ret rfl ?_
    simp [-Out.bind, lim, Kd.parts]
  | row m =>
    simp [-Out.bind, Kd.D, atI, ixN, eq_ss]
    refine w_ret rfl ?_
    have h1 : (m : Int) ≤ 1000 := by have := hK.2; omega
    have e : binD .Mult (.ref S.length) (.int m) (S ++ [.lst [pD false]]) = .ok (.ref (S ++ [MO.lst [pD false]]).length) (S ++ [.lst [pD false]] ++ [.lst (List.replicate m (pD false))]) := by
      rw [binD_rep (xs := [pD false]) (by simp) (by decide) (by omega) h1, Int.toNat_natCast, rep_flat]
    have e' : binD .Mult (.ref S.length) (.int m) (S ++ [.lst [.tup [.str "num"]]]) = .ok (.ref (S ++ [MO.lst [pD false]]).length) (S ++ [.lst [pD false]] ++ [.lst (List.replicate m (pD false))]) := e
    simp [-Out.bind, Kd.D, pD, atI, ixN, lim, e', Kd.parts]
  | rcd bs =>
    simp [-Out.bind, Kd.D, atI, ixN, eq_ss]
    refine w_if rfl ?_
    simp [-Out.bind, Kd.D, atI, ixN, eq_ss]
    refine w_ret rfl ?_
    simp [-Out.bind, Kd.D, atI, ixN, biD, Kd.parts]
/-- told by the program -/
theorem parts_of_ok (n : Nat) {K : Kd} (hK : K.ok) (S : Sto) : (fnN G (n + 1) 3 [K.D] S).Ok fun v S' => ∃ r, v = .ref r ∧ S'[r]? = some (.lst (K.parts.map pD)) ∧ Ext S S' := by
  generalize hF : fnN G (n + 1) = F
  refine run_okF hF f3 rfl rfl fun Y hf hg => ?_
  have g0 : Y.gv 0 = pD false := by rw [hg]; rfl
  simp [f3]
  refine w_if rfl ?_
  cases K with
  | num =>
    simp [-Out.bind, Kd.D, pD, atI, ixN, eq_ss]
    refine w_if rfl ?_
    simp [-Out.bind, Kd.D, pD, atI, ixN, eq_ss]
    refine w_ret rfl ?_
    simp [-Out.bind, lim, Kd.parts]
  | truth =>
    simp [-Out.bind, Kd.D, pD, atI, ixN, eq_ss]
    refine w_if rfl ?_
    simp [-Out.bind, Kd.D, pD, atI, ixN, eq_ss]
    refine w_ret rfl ?_
    simp [-Out.bind, lim, Kd.parts]
  | row m =>
    simp [-Out.bind, Kd.D, atI, ixN, eq_ss]
    refine w_ret rfl ?_
    have h1 : (m : Int) ≤ 1000 := by have := hK.2; omega
    have e : binD .Mult (.ref S.length) (.int m) (S ++ [.lst [pD false]]) = .ok (.ref (S ++ [MO.lst [pD false]]).length) (S ++ [.lst [pD false]] ++ [.lst (List.replicate m (pD false))]) := by
      rw [binD_rep (xs := [pD false]) (by simp) (by decide) (by omega) h1, Int.toNat_natCast, rep_flat]
    simp [-Out.bind, g0, Kd.D, atI, ixN, lim, e, Kd.parts]
  | rcd bs =>
    simp [-Out.bind, Kd.D, atI, ixN, eq_ss]
    refine w_if rfl ?_
    simp [-Out.bind, Kd.D, atI, ixN, eq_ss]
    refine w_ret rfl ?_
    simp [-Out.bind, Kd.D, atI, ixN, biD, Kd.parts]
end My

namespace My
open PySem L2 Mi
def pP : Bool → PyData
  | false => .tuple [.str "num"]
  | true => .tuple [.str "truth"]
def Kd.P : Kd → PyData
  | .num => pP false
  | .truth => pP true
  | .row n => .tuple [.str "row", .int n]
  | .rcd bs => .tuple [.str "record", .tuple (bs.map pP)]
theorem py_p {S : Sto} {n : Nat} (b : Bool) : toPy S (n + 2) (pD b) = some (pP b) := by cases b <;> simp [pD, pP, toPy]
theorem py_ps {S : Sto} {n : Nat} : ∀ bs : List Bool, (bs.map pD).mapM (toPy S (n + 2)) = some (bs.map pP)
  | [] => rfl
  | b :: bs => by rw [List.map_cons, List.mapM_cons, py_p, py_ps bs]; rfl
theorem py_k {S : Sto} {n : Nat} (K : Kd) : toPy S (n + 4) K.D = some K.P := by
  cases K with
  | num => exact py_p false
  | truth => exact py_p true
  | row m => simp [Kd.D, Kd.P, toPy]
  | rcd bs =>
    have e : (bs.map pD).mapM (toPy S (n + 2)) = some (bs.map pP) := py_ps bs
    have e2 : toPy S (n + 3) (.tup (bs.map pD)) = some (.tuple (bs.map pP)) := by simp only [toPy, e]; rfl
    have e3 : toPy S (n + 3) (.str "record") = some (.str "record") := by simp [toPy]
    show (([.str "record", .tup (bs.map pD)] : List D).mapM (toPy S (n + 3))).map PyData.tuple = _
    simp [e2, e3, Kd.P]
def Kd.is : Kd → Bool → Bool
  | .num, false => true
  | .truth, true => true
  | _, _ => false
theorem eq_kd {S : Sto} (K : Kd) (b : Bool) : eqD S K.D (pD b) = some (K.is b) := by
  rw [eqD_of (py_k (n := 36) K) (py_p (n := 38) b)]
  cases K <;> cases b <;> simp [Kd.P, pP, Kd.is]
theorem eq_k1 {S : Sto} (K : Kd) : eqD S K.D (.tup [.str "num"]) = some (K.is false) := eq_kd K false
theorem eq_k2 {S : Sto} (K : Kd) : eqD S K.D (.tup [.str "truth"]) = some (K.is true) := eq_kd K true
theorem eq_p1 {S : Sto} (b : Bool) : eqD S (pD b) (.tup [.str "num"]) = some (!b) := by
  cases b
  · exact eq_kd .num false
  · exact eq_kd .truth false
theorem eq_p2 {S : Sto} (b : Bool) : eqD S (pD b) (.tup [.str "truth"]) = some b := by
  cases b
  · exact eq_kd .num true
  · exact eq_kd .truth true
theorem plain_ok (n : Nat) {r : Nat} {S : Sto} (h : Bx r S) : (fnN G (n + 3) 14 [.ref r] S).Ok fun v S' => Gb r S S' ∧ ∃ b, v = pD b := by
  generalize hF : fnN G (n + 3) = F
  refine run_okF hF f14 rfl rfl fun Y hf hg => ?_
  simp [f14]
  refine w_ret rfl ?_
  obtain ⟨_, S2, e2, g2, x, hx0, hx1, rfl⟩ := (take_ok n (m := 2) (h.app [.lst [pD false, pD true]]) (by decide) (by decide)).ex
  have e2' : fnN G (n + 2) 13 [.ref r, .int 2] (S ++ [.lst [.tup [.str "num"], .tup [.str "truth"]]]) = .ok (.int x) S2 := e2
  have q : S2[S.length]? = some (.lst [.tup [.str "num"], .tup [.str "truth"]]) := g2.2 _ _ (Nat.ne_of_gt h.lt) (by simp [pD])
  simp [-Out.bind, lim, hf, e2', q]
  have hc : x = 0 ∨ x = 1 := by omega
  rcases hc with rfl | rfl
  · simp [atI, ixN]
    exact ⟨⟨g2.1, (Fr.app _).trans g2.2⟩, .inl rfl⟩
  · simp [atI, ixN]
    exact ⟨⟨g2.1, (Fr.app _).trans g2.2⟩, .inr rfl⟩
/-- a kind is drawn -/
theorem kind_ok (n : Nat) {r : Nat} {S : Sto} (h : Bx r S) : (fnN G (n + 4) 15 [.ref r] S).Ok fun v S' => Gb r S S' ∧ ∃ K : Kd, K.ok ∧ v = K.D := by
  generalize hF : fnN G (n + 4) = F
  refine run_okF hF f15 rfl rfl fun Y hf hg => ?_
  simp [f15]
  refine w_set rfl ?_
  obtain ⟨_, S1, e1, g1, x, hx0, hx1, rfl⟩ := (take_ok (n + 1) (m := 4) h (by decide) (by decide)).ex
  simp [-Out.bind, hf, e1]
  refine w_if rfl ?_
  by_cases h2 : x < 2
  · simp [-Out.bind, h2]
    refine w_ret rfl ?_
    have hc : x = 0 ∨ x = 1 := by omega
    rcases hc with rfl | rfl
    · simp [-Out.bind, lim, atI, ixN]
      exact ⟨g1.ext (Ext_app _ _), .num, trivial, rfl⟩
    · simp [-Out.bind, lim, atI, ixN]
      exact ⟨g1.ext (Ext_app _ _), .truth, trivial, rfl⟩
  · simp [-Out.bind, h2]
    refine w_if rfl ?_
    have hc : x = 2 ∨ x = 3 := by omega
    rcases hc with rfl | rfl
    · simp [-Out.bind, eq_ii]
      refine w_ret rfl ?_
      obtain ⟨_, S2, e2, g2, y, hy0, hy1, rfl⟩ := (take_ok (n + 1) (m := 6) g1.1 (by decide) (by decide)).ex
      simp [-Out.bind, hf, e2, lim]
      refine ⟨g1.trans g2, .row (1 + y).toNat, ⟨by omega, by omega⟩, ?_⟩
      simp only [Kd.D]
      rw [Int.toNat_of_nonneg (by omega)]
    · simp [-Out.bind, eq_ii]
      refine w_ret rfl ?_
      obtain ⟨_, S2, e2, g2, y, hy0, hy1, rfl⟩ := (take_ok (n + 1) (m := 4) g1.1 (by decide) (by decide)).ex
      have e0 : evI Y (.rng1 (.bin .Add (.con (.int 1)) (.call 13 (.cons (.var 0) (.cons (.con (.int 4)) .nil))))) [some (.ref r), some (.int 3), none] S1 = .ok (.rng 0 (1 + y).toNat) S2 := by
        have hv : ev Y (.bin .Add (.con (.int 1)) (.call 13 (.cons (.var 0) (.cons (.con (.int 4)) .nil)))) [some (.ref r), some (.int 3), none] S1 = .ok (.int (1 + y)) S2 := by
          simp [-Out.bind, hf, e2]
        rw [evI_rng1, hv, bind_ok]
        simp only
        rw [if_pos (by omega)]
      rw [ev_tup]
      refine Ok_bind ?_
      rw [evs_cons, ev_con, bind_ok]
      refine Ok_bind ?_
      rw [evs_cons, ev_bi]
      refine Ok_bind ?_
      refine Ok_bind ?_
      rw [evs_cons]
      refine Ok_bind ?_
      rw [ev_comp, e0, bind_ok, show wipeD [some (D.ref r), some (.int 3), none] ([((Str.ofString "_law_k"), 2)].map (·.2)) = [some (D.ref r), some (.int 3), none] from rfl]
      refine Ok_bind ?_
      refine compN_inv (fun i acc S' => Gb r S S' ∧ ∃ bs : List Bool, bs.length = i ∧ acc = bs.map pD) (1 + y).toNat (fun i => .int (0 + (i : Int))) (by simp only [lim]; omega) ?_ ?_ ?_ ?_ (lim + 2) 0 [] S2 ⟨g1.trans g2, [], rfl, rfl⟩ (Nat.le_refl _) (Nat.zero_le _) (by simp only [lim]; omega)
      · intro i acc S' _ hi
        simp only [itNext, if_pos hi]
      · intro acc S' _
        simp only [itNext, if_neg (Nat.lt_irrefl _)]
      · rintro i acc S' ⟨g, bs, hl, rfl⟩ hi
        refine ⟨_, rfl, ?_⟩
        obtain ⟨_, S3, e3, g3, b, rfl⟩ := (plain_ok n g.1).ex
        simp [-Out.bind, hf, e3]
        exact ⟨g.trans g3, bs ++ [b], by simp [hl], by simp⟩
      · rintro acc S' ⟨g, bs, hl, rfl⟩
        simp [-Out.bind, biD, seqAt, lstAt, lim]
        refine ⟨g.ext (Ext_app _ _), .rcd bs, ⟨by omega, by omega⟩, rfl⟩
end My

namespace My
open PySem L2 Mi
/-! things that may hold dicts; r is the box, which none of them holds -/
/-- nothing else than these is changed -/
def FrR (r : Nat → Prop) (S S' : Sto) : Prop := ∀ n o, ¬ r n → S[n]? = some o → S'[n]? = some o
theorem FrR.refl (r : Nat → Prop) (S : Sto) : FrR r S S := fun n o _ h => h
theorem FrR.trans {r : Nat → Prop} {S S1 S2 : Sto} (a : FrR r S S1) (b : FrR r S1 S2) : FrR r S S2 := fun n o hn h => b n o hn (a n o hn h)
theorem FrR.app {r : Nat → Prop} {S : Sto} (T : Sto) : FrR r S (S ++ T) := fun n o _ h => by
  rw [List.getElem?_append_left (List.getElem?_eq_some_iff.mp h).1]; exact h
theorem FrR.ext {r : Nat → Prop} {S S' : Sto} (h : Ext S S') : FrR r S S' := by
  obtain ⟨T, rfl⟩ := h
  exact FrR.app T
theorem FrR.of {q : Nat} {r : Nat → Prop} {S S' : Sto} (h : Fr q S S') (hr : r q) : FrR r S S' := fun n o hn e => h n o (fun z => hn (by rw [z]; exact hr)) e
theorem FrR.set {q : Nat} {r : Nat → Prop} {S : Sto} {o : MO} (hr : r q) : FrR r S (S.set q o) := FrR.of Fr.set hr
/-- data, whatever is done to the boxes -/
def Da (r : Nat → Prop) (k : Nat) (S : Sto) (d : D) : Prop := ∃ p, ∀ S', FrR r S S' → ∀ n, k ≤ n → toPy S' n d = some p
def Das (r : Nat → Prop) (k : Nat) (S : Sto) (ds : List D) : Prop := ∃ ps, ∀ S', FrR r S S' → ∀ n, k ≤ n → ds.mapM (toPy S' n) = some ps
section
variable {r : Nat → Prop} {k : Nat} {S : Sto}
theorem Da.mono {d : D} {k' : Nat} (h : Da r k S d) (hk : k ≤ k') : Da r k' S d := by
  obtain ⟨p, h⟩ := h
  exact ⟨p, fun S' f n hn => h S' f n (by omega)⟩
theorem Da.fr {d : D} {S1 : Sto} (h : Da r k S d) (f : FrR r S S1) : Da r k S1 d := by
  obtain ⟨p, h⟩ := h
  exact ⟨p, fun S' f' n hn => h S' (f.trans f') n hn⟩
theorem Da.at_ {d : D} (h : Da r k S d) {n : Nat} (hn : k ≤ n) : ∃ p, toPy S n d = some p := by
  obtain ⟨p, h⟩ := h
  exact ⟨p, h S (FrR.refl _ _) n hn⟩
theorem Da.non : Da r (k + 1) S .non := ⟨.none, fun S' _ n hn => by cases n with | zero => omega | succ n => simp [toPy]⟩
theorem Da.bl (b : Bool) : Da r (k + 1) S (.bl b) := ⟨.bool b, fun S' _ n hn => by cases n with | zero => omega | succ n => simp [toPy]⟩
theorem Da.int (i : Int) : Da r (k + 1) S (.int i) := ⟨.int i, fun S' _ n hn => by cases n with | zero => omega | succ n => simp [toPy]⟩
theorem Da.str (s : String) : Da r (k + 1) S (.str s) := ⟨.str s, fun S' _ n hn => by cases n with | zero => omega | succ n => simp [toPy]⟩
theorem Das.nil : Das r k S [] := ⟨[], fun _ _ _ _ => rfl⟩
theorem Das.cons {d : D} {ds : List D} (h : Da r k S d) (h' : Das r k S ds) : Das r k S (d :: ds) := by
  obtain ⟨p, h⟩ := h
  obtain ⟨ps, h'⟩ := h'
  exact ⟨p :: ps, fun S' f n hn => by rw [List.mapM_cons, h S' f n hn, h' S' f n hn]; rfl⟩
theorem Da.tup {ds : List D} (h : Das r k S ds) : Da r (k + 1) S (.tup ds) := by
  obtain ⟨ps, h⟩ := h
  exact ⟨.tuple ps, fun S' f n hn => by cases n with | zero => omega | succ n => simp only [toPy]; rw [h S' f n (by omega)]; rfl⟩
theorem Da.lst {ds : List D} {q : Nat} (hq : ¬ r q) (e : S[q]? = some (.lst ds)) (h : Das r k S ds) : Da r (k + 1) S (.ref q) := by
  obtain ⟨ps, h⟩ := h
  exact ⟨.list ps, fun S' f n hn => by cases n with | zero => omega | succ n => simp only [toPy, f q _ hq e]; rw [h S' f n (by omega)]; rfl⟩
theorem Da.pd (b : Bool) : Da r (k + 2) S (pD b) := by cases b <;> exact .tup (.cons (.str _) .nil)
theorem Das.mem : ∀ {ds : List D} {ps : List PyData}, (∀ S', FrR r S S' → ∀ n, k ≤ n → ds.mapM (toPy S' n) = some ps) → ∀ x ∈ ds, Da r k S x
  | [], _, _, x, hx => by cases hx
  | d :: ds, ps, h, x, hx => by
    have key : ∃ p1 ps1, ps = p1 :: ps1 ∧ ∀ S', FrR r S S' → ∀ n, k ≤ n → toPy S' n d = some p1 ∧ ds.mapM (toPy S' n) = some ps1 := by
      have h1 := h S (FrR.refl _ _) k (Nat.le_refl _)
      rw [List.mapM_cons] at h1
      simp only [bind, Option.bind_eq_some_iff] at h1
      obtain ⟨p1, _, ps1, _, e1⟩ := h1
      cases e1
      refine ⟨p1, ps1, rfl, fun S' f n hn => ?_⟩
      have h2 := h S' f n hn
      rw [List.mapM_cons] at h2
      simp only [bind, Option.bind_eq_some_iff] at h2
      obtain ⟨p2, a2, ps2, b2, e2⟩ := h2
      cases e2
      exact ⟨a2, b2⟩
    obtain ⟨p1, ps1, rfl, hk⟩ := key
    rcases List.mem_cons.mp hx with rfl | hx
    · exact ⟨p1, fun S' f n hn => (hk S' f n hn).1⟩
    · exact Das.mem (fun S' f n hn => (hk S' f n hn).2) x hx
/-- parts of data -/
theorem Da.parts {ds : List D} (h : Da r (k + 1) S (.tup ds)) : ∀ x ∈ ds, Da r k S x := by
  obtain ⟨p, h⟩ := h
  have h0 := h S (FrR.refl _ _) (k + 1) (Nat.le_refl _)
  simp only [toPy, Option.map_eq_some_iff] at h0
  obtain ⟨ps, _, hp⟩ := h0
  exact Das.mem (ps := ps) fun S' f n hn => by
    have := h S' f (n + 1) (by omega)
    simp only [toPy, Option.map_eq_some_iff] at this
    obtain ⟨qs, h1, h2⟩ := this
    rw [← hp] at h2
    injection h2 with h2
    rw [← h2]; exact h1
end
/-- a dict -/
def Di (r : Nat → Prop) (S : Sto) (d : D) : Prop := ∃ n kvs, d = .ref n ∧ ¬ r n ∧ S[n]? = some (.dK kvs)
/-- a list -/
def Li (r : Nat → Prop) (S : Sto) (d : D) : Prop := ∃ n ys, d = .ref n ∧ ¬ r n ∧ S[n]? = some (.lst ys)
/-- a word -/
def Wd (r : Nat → Prop) (S : Sto) (d : D) : Prop := Da r 11 S d ∨ Di r S d
/-- a part -/
def Pr (r : Nat → Prop) (S : Sto) (d : D) : Prop := Da r 12 S d ∨ Di r S d ∨ ∃ x xs, d = .tup (x :: xs) ∧ Di r S x ∧ ∀ y ∈ xs, Wd r S y
/-- what stands behind the word -/
def Sc (r : Nat → Prop) (S : Sto) (d : D) : Prop := Wd r S d ∨ Li r S d ∨ ∃ xs, d = .tup xs ∧ ∀ x ∈ xs, Pr r S x
/-- a thing -/
def Tn (r : Nat → Prop) (S : Sto) (d : D) : Prop := (Da r 12 S d ∨ Di r S d) ∨ Li r S d ∨ ∃ x xs, d = .tup (x :: xs) ∧ Wd r S x ∧ ∀ y, xs = [y] → Sc r S y
section
variable {r : Nat → Prop} {S S1 : Sto} {d : D}
theorem Di.fr (h : Di r S d) (f : FrR r S S1) : Di r S1 d := by
  obtain ⟨n, kvs, e, hn, h⟩ := h
  exact ⟨n, kvs, e, hn, f n _ hn h⟩
theorem Li.fr (h : Li r S d) (f : FrR r S S1) : Li r S1 d := by
  obtain ⟨n, kvs, e, hn, h⟩ := h
  exact ⟨n, kvs, e, hn, f n _ hn h⟩
theorem Wd.fr (h : Wd r S d) (f : FrR r S S1) : Wd r S1 d := by
  rcases h with h | h
  · exact .inl (h.fr f)
  · exact .inr (h.fr f)
theorem Pr.fr (h : Pr r S d) (f : FrR r S S1) : Pr r S1 d := by
  rcases h with h | h | ⟨x, xs, e, h, h2⟩
  · exact .inl (h.fr f)
  · exact .inr (.inl (h.fr f))
  · exact .inr (.inr ⟨x, xs, e, h.fr f, fun y hy => (h2 y hy).fr f⟩)
theorem Sc.fr (h : Sc r S d) (f : FrR r S S1) : Sc r S1 d := by
  rcases h with h | h | ⟨xs, e, h⟩
  · exact .inl (h.fr f)
  · exact .inr (.inl (h.fr f))
  · exact .inr (.inr ⟨xs, e, fun x hx => (h x hx).fr f⟩)
theorem Tn.fr (h : Tn r S d) (f : FrR r S S1) : Tn r S1 d := by
  rcases h with (h | h) | h | ⟨x, xs, e, h, h2⟩
  · exact .inl (.inl (h.fr f))
  · exact .inl (.inr (h.fr f))
  · exact .inr (.inl (h.fr f))
  · exact .inr (.inr ⟨x, xs, e, h.fr f, fun y hy => (h2 y hy).fr f⟩)
theorem Wd.w (h : Wd r S d) : Da r 12 S d ∨ Di r S d := by
  rcases h with h | h
  · exact .inl (h.mono (by decide))
  · exact .inr h
theorem Wd.pr (h : Wd r S d) : Pr r S d := by
  rcases h with h | h
  · exact .inl (h.mono (by decide))
  · exact .inr (.inl h)
section
variable {r' : Nat → Prop}
theorem FrR.less (hr : ∀ n, r' n → r n) (f : FrR r' S S1) : FrR r S S1 := fun n o hn e => f n o (fun z => hn (hr n z)) e
theorem Da.less {k : Nat} (h : Da r k S d) (hr : ∀ n, r' n → r n) : Da r' k S d := by
  obtain ⟨p, h⟩ := h
  exact ⟨p, fun S' f n hn => h S' (f.less hr) n hn⟩
theorem Di.less (h : Di r S d) (hr : ∀ n, r' n → r n) : Di r' S d := by
  obtain ⟨n, kvs, e, hn, h⟩ := h
  exact ⟨n, kvs, e, fun z => hn (hr n z), h⟩
theorem Wd.less (h : Wd r S d) (hr : ∀ n, r' n → r n) : Wd r' S d := by
  rcases h with h | h
  · exact .inl (h.less hr)
  · exact .inr (h.less hr)
theorem Pr.less (h : Pr r S d) (hr : ∀ n, r' n → r n) : Pr r' S d := by
  rcases h with h | h | ⟨x, xs, e, h, h2⟩
  · exact .inl (h.less hr)
  · exact .inr (.inl (h.less hr))
  · exact .inr (.inr ⟨x, xs, e, h.less hr, fun y hy => (h2 y hy).less hr⟩)
end
/-- isinstance can tell -/
def TyO (S : Sto) : D → Prop
  | .ref n => ∃ o, S[n]? = some o ∧ ∀ c fs, o ≠ .ins c fs
  | _ => True
theorem Da.ty {k : Nat} (h : Da r k S d) : TyO S d := by
  cases d with
  | ref n =>
    obtain ⟨p, h⟩ := h.at_ (n := k + 1) (by omega)
    simp only [toPy] at h
    split at h
    · rename_i xs e
      exact ⟨_, e, fun c fs z => by cases z⟩
    · cases h
  | _ => trivial
theorem Di.ty (h : Di r S d) : TyO S d := by
  obtain ⟨n, kvs, rfl, _, h⟩ := h
  exact ⟨_, h, fun c fs z => by cases z⟩
theorem Li.ty (h : Li r S d) : TyO S d := by
  obtain ⟨n, kvs, rfl, _, h⟩ := h
  exact ⟨_, h, fun c fs z => by cases z⟩
theorem Wd.ty (h : Wd r S d) : TyO S d := by
  rcases h with h | h
  · exact h.ty
  · exact h.ty
theorem Pr.ty (h : Pr r S d) : TyO S d := by
  rcases h with h | h | ⟨x, xs, rfl, h⟩
  · exact h.ty
  · exact h.ty
  · trivial
theorem Sc.ty (h : Sc r S d) : TyO S d := by
  rcases h with h | h | ⟨xs, rfl, h⟩
  · exact h.ty
  · exact h.ty
  · trivial
theorem Tn.ty (h : Tn r S d) : TyO S d := by
  rcases h with (h | h) | h | ⟨x, xs, rfl, h⟩
  · exact h.ty
  · exact h.ty
  · exact h.ty
  · trivial
def isB : D → Bool
  | .bl _ => true
  | _ => false
def isI : D → Bool
  | .int _ => true
  | _ => false
def isT : D → Bool
  | .tup _ => true
  | _ => false
theorem ty_bool (h : TyO S d) : isTys S d [.b .bool] = some (isB d) := by
  cases d with
  | ref n =>
    obtain ⟨o, h, hi⟩ := h
    cases o with
    | ins c fs => exact absurd rfl (hi c fs)
    | _ => simp [isTys, isTy, tyName, tyLe, h, isB]
  | _ => rfl
theorem ty_int (h : TyO S d) : isTys S d [.b .int] = some (isI d || isB d) := by
  cases d with
  | ref n =>
    obtain ⟨o, h, hi⟩ := h
    cases o with
    | ins c fs => exact absurd rfl (hi c fs)
    | _ => simp [isTys, isTy, tyName, tyLe, h, isB, isI]
  | _ => rfl
theorem ty_tup (h : TyO S d) : isTys S d [.b .tuple] = some (isT d) := by
  cases d with
  | ref n =>
    obtain ⟨o, h, hi⟩ := h
    cases o with
    | ins c fs => exact absurd rfl (hi c fs)
    | _ => simp [isTys, isTy, tyName, tyLe, h, isT]
  | _ => rfl
/-- it is that text -/
def strIs (t : String) : D → Bool
  | .str x => x == Str.ofString t
  | _ => false
theorem py_str {n : Nat} {t : String} : toPy S (n + 1) (.str t) = some (.str t) := by simp [toPy]
theorem str_eqv {n : Nat} {t : String} {p : PyData} (h : toPy S (n + 1) d = some p) : PyData.eqv p (.str t) = strIs t d ∧ PyData.eqv (.str t) p = strIs t d := by
  cases d with
  | non => simp only [toPy] at h; cases h; exact ⟨by simp [strIs], by simp [strIs]⟩
  | bl b => simp only [toPy] at h; cases h; exact ⟨by simp [strIs], by simp [strIs]⟩
  | int b => simp only [toPy] at h; cases h; exact ⟨by simp [strIs], by simp [strIs]⟩
  | str b =>
    simp only [toPy] at h
    split at h
    · cases h; exact ⟨by simp [strIs], by simp [strIs]; exact BEq.comm⟩
    · cases h
  | tup b =>
    simp only [toPy, Option.map_eq_some_iff] at h
    obtain ⟨ps, _, rfl⟩ := h
    exact ⟨by simp [strIs], by simp [strIs]⟩
  | rol b =>
    simp only [toPy, Option.map_eq_some_iff] at h
    obtain ⟨ps, _, rfl⟩ := h
    exact ⟨by simp [strIs], by simp [strIs]⟩
  | ref b =>
    simp only [toPy] at h
    split at h
    · simp only [Option.map_eq_some_iff] at h
      obtain ⟨ps, _, rfl⟩ := h
      exact ⟨by simp [strIs], by simp [strIs]⟩
    · cases h
theorem Di.py (h : Di r S d) (n : Nat) : toPy S n d = none := by
  obtain ⟨q, kvs, rfl, _, h⟩ := h
  cases n <;> simp [toPy, h]
theorem Di.apart {t : String} (h : Di r S d) : apart S d (.str t) = true ∧ apart S (.str t) d = true := by
  obtain ⟨q, kvs, rfl, _, h⟩ := h
  exact ⟨by simp [Mi.apart, dKind, h], by simp [Mi.apart, dKind, h]⟩
theorem Di.strIs {t : String} (h : Di r S d) : strIs t d = false := by
  obtain ⟨q, kvs, rfl, _, h⟩ := h
  rfl
theorem eq_w {t : String} (h : Da r 12 S d ∨ Di r S d) : eqD S d (.str t) = some (strIs t d) := by
  rcases h with h | h
  · obtain ⟨p, e⟩ := h.at_ (n := 40) (by omega)
    rw [eqD_of e py_str, (str_eqv e).1]
  · rw [h.strIs]
    unfold eqD
    rw [h.py 40]
    simp [unlike, h.apart.1]
theorem py_words : ∀ ws : List String, (ws.map fun (w : String) => D.str w).mapM (toPy S 39) = some (ws.map fun (w : String) => PyData.str w)
  | [] => rfl
  | w :: ws => by rw [List.map_cons, List.mapM_cons, py_words ws, py_str]; rfl
theorem any_ws (ws : List String) (h : Da r 12 S d ∨ Di r S d) : anyEq S d (ws.map fun (w : String) => D.str w) = some (ws.any fun (w : String) => strIs w d) := by
  rcases h with h | h
  · obtain ⟨p, e⟩ := h.at_ (n := 40) (by omega)
    unfold anyEq
    rw [e, py_words]
    simp only [List.any_map]
    congr 1
    congr 1
    funext w
    exact (str_eqv (n := 39) e).2
  · have e : (ws.any fun (w : String) => strIs w d) = false := by simp [h.strIs]
    rw [e]
    unfold anyEq
    rw [h.py 40]
    simp [h.apart]
/-- it is the tuple of that text -/
def onlyIs (t : String) : D → Bool
  | .tup [x] => strIs t x
  | _ => false
theorem py_only {n : Nat} {t : String} : toPy S (n + 2) (.tup [.str t]) = some (.tuple [.str t]) := by simp [toPy]
theorem eq_p {t : String} (h : Pr r S d) : eqD S d (.tup [.str t]) = some (onlyIs t d) := by
  rcases h with h | h | ⟨x, xs, rfl, h, _⟩
  · obtain ⟨p, e⟩ := h.at_ (n := 40) (by omega)
    rw [eqD_of e py_only]
    cases d with
    | non => simp only [toPy] at e; cases e; simp [onlyIs]
    | bl b => simp only [toPy] at e; cases e; simp [onlyIs]
    | int b => simp only [toPy] at e; cases e; simp [onlyIs]
    | str b =>
      simp only [toPy] at e
      split at e
      · cases e; simp [onlyIs]
      · cases e
    | rol b =>
      simp only [toPy, Option.map_eq_some_iff] at e
      obtain ⟨ps, _, rfl⟩ := e
      simp [onlyIs]
    | ref b =>
      simp only [toPy] at e
      split at e
      · simp only [Option.map_eq_some_iff] at e
        obtain ⟨ps, _, rfl⟩ := e
        simp [onlyIs]
      · cases e
    | tup xs =>
      simp only [toPy, Option.map_eq_some_iff] at e
      obtain ⟨ps, e, rfl⟩ := e
      cases xs with
      | nil => simp at e; subst e; simp [onlyIs]
      | cons x xs =>
        rw [List.mapM_cons] at e
        simp only [bind, Option.bind_eq_some_iff] at e
        obtain ⟨p1, a1, ps1, b1, e1⟩ := e
        cases e1
        cases xs with
        | nil =>
          simp at b1; subst b1
          simp [onlyIs, (str_eqv (n := 38) a1).1]
        | cons y ys =>
          rw [List.mapM_cons] at b1
          simp only [bind, Option.bind_eq_some_iff] at b1
          obtain ⟨p2, a2, ps2, b2, e2⟩ := b1
          cases e2
          simp [onlyIs]
  · obtain ⟨q, kvs, rfl, _, h⟩ := h
    unfold eqD
    have e : toPy S 40 (.ref q) = none := by simp [toPy, h]
    rw [e]
    simp [unlike, apart, dKind, h, onlyIs]
  · have e : toPy S 40 (.tup (x :: xs)) = none := by
      simp only [toPy]
      rw [List.mapM_cons, h.py 39]
      rfl
    unfold eqD
    rw [e]
    have a := (h.apart (t := t)).1
    have u : unlike S (.tup (x :: xs)) (.tup [.str t]) = true := by
      simp [unlike, a, eqJ]
    simp [u]
    cases xs with
    | nil => simp [onlyIs, h.strIs]
    | cons y ys => rfl
/-- words of things -/
theorem Pr.parts {xs : List D} (h : Pr r S (.tup xs)) : ∀ x ∈ xs, Da r 12 S x ∨ Di r S x := by
  rcases h with h | h | ⟨y, ys, e, h, h2⟩
  · exact fun x hx => .inl ((h.parts x hx).mono (by decide))
  · obtain ⟨q, kvs, e, _⟩ := h; cases e
  · cases e
    intro x hx
    rcases List.mem_cons.mp hx with rfl | hx
    · exact .inr h
    · rcases h2 x hx with h | h
      · exact .inl (h.mono (by decide))
      · exact .inr h
theorem Tn.head {x : D} {xs : List D} (h : Tn r S (.tup (x :: xs))) : Wd r S x := by
  rcases h with (h | h) | h | ⟨y, ys, e, h, _⟩
  · exact .inl (h.parts x (List.mem_cons_self ..))
  · obtain ⟨q, kvs, e, _⟩ := h; cases e
  · obtain ⟨q, kvs, e, _⟩ := h; cases e
  · cases e; exact h
theorem Tn.second {x y : D} (h : Tn r S (.tup [x, y])) : Sc r S y := by
  rcases h with (h | h) | h | ⟨_, _, e, _, h⟩
  · exact .inl (.inl (h.parts y (by simp)))
  · obtain ⟨q, kvs, e, _⟩ := h; cases e
  · obtain ⟨q, kvs, e, _⟩ := h; cases e
  · cases e; exact h y rfl
theorem Sc.parts {xs : List D} (h : Sc r S (.tup xs)) : ∀ x ∈ xs, Pr r S x := by
  rcases h with (h | h) | h | ⟨_, e, h⟩
  · exact fun x hx => .inl ((h.parts x hx).mono (by decide))
  · obtain ⟨q, kvs, e, _⟩ := h; cases e
  · obtain ⟨q, kvs, e, _⟩ := h; cases e
  · cases e; exact h
theorem Pr.tn (h : Pr r S d) : Tn r S d := by
  rcases h with h | h | ⟨x, xs, e, h, h2⟩
  · exact .inl (.inl h)
  · exact .inl (.inr h)
  · exact .inr (.inr ⟨x, xs, e, .inr h, fun y hy => .inl (h2 y (by rw [hy]; exact List.mem_singleton_self y))⟩)
theorem one_pr {x : D} (h : Wd r S x) : Pr r S (.tup [x]) := by
  rcases h with h | h
  · exact .inl (.tup (.cons h .nil))
  · exact .inr (.inr ⟨x, [], rfl, h, fun y hy => by cases hy⟩)
end
end My

namespace My
open PySem L2 Mi
def plD (d : D) : Bool := onlyIs "num" d || onlyIs "truth" d
def secRow : D → Bool
  | .int i => decide (1 ≤ i) && decide (i ≤ 6)
  | _ => false
def secRec : D → Bool
  | .tup ps => decide (1 ≤ ps.length ∧ ps.length ≤ 4) && ps.all plD
  | _ => false
/-- whether it is a kind -/
def isK : D → Bool
  | .tup [x] => strIs "num" x || strIs "truth" x
  | .tup [x, y] => if strIs "row" x = true then secRow y else strIs "record" x && secRec y
  | _ => false
/-- whether it is a constant -/
def isC : D → Bool
  | .tup [x, y] => if strIs "num" x = true then isI y else strIs "truth" x && isB y
  | _ => false
section
variable {r : Nat → Prop} {S : Sto} {d : D}
theorem whole_f0 (n : Nat) (h : TyO S d) : fnN G (n + 1) 0 [d] S = .ok (.bl (isI d)) S := by
  have q : (fnN G (n + 1) 0 [d] S).Ok fun v S' => S' = S ∧ v = .bl (isI d) := by
    refine run_ok f0 rfl rfl fun Y hf hg => ?_
    simp [f0]
    refine w_ret rfl ?_
    have e1 := ty_bool h
    have e2 := ty_int h
    cases d <;> simp [-Out.bind, e1, e2, isI, isB]
  obtain ⟨v, S', e, rfl, rfl⟩ := q.ex
  exact e
theorem at1_0 {a : D} : atI [a] 0 = some a := rfl
theorem at2_0 {a b : D} : atI [a, b] 0 = some a := rfl
theorem at2_1 {a b : D} : atI [a, b] 1 = some b := rfl
theorem t_bool {x : D} (h : TyO S x) : isTys S x [.b .bool] = some (isB x) := ty_bool h
/-- the program's look at a plain kind -/
theorem plain_f1 (n : Nat) (h : TyO S d) (hx : ∀ x, d = .tup [x] → Da r 12 S x ∨ Di r S x) : fnN G (n + 1) 1 [d] S = .ok (.bl (plD d)) S := by
  have q : (fnN G (n + 1) 1 [d] S).Ok fun v S' => S' = S ∧ v = .bl (plD d) := by
    refine run_ok f1 rfl rfl fun Y hf hg => ?_
    simp [f1]
    refine w_ret rfl ?_
    have et := ty_tup h
    cases d with
    | tup xs =>
      cases xs with
      | nil => simp [-Out.bind, et, isT, bi_len, eq_ii, plD, onlyIs]
      | cons x xs =>
        cases xs with
        | nil =>
          have e1 := fun t => eq_w (t := t) (hx x rfl)
          cases hn : strIs "num" x with
          | true => simp [-Out.bind, et, isT, bi_len, eq_ii, at1_0, e1, hn, plD, onlyIs]
          | false => simp [-Out.bind, et, isT, bi_len, eq_ii, at1_0, e1, hn, plD, onlyIs]
        | cons y ys =>
          have hl : (((ys.length : Int) + 1 + 1) == 1) = false := beq_false_of_ne (by omega)
          simp [-Out.bind, et, isT, bi_len, eq_ii, hl, plD, onlyIs]
    | _ => simp [-Out.bind, et, isT, plD, onlyIs]
  obtain ⟨v, S', e, rfl, rfl⟩ := q.ex
  exact e
theorem Pr.one (h : Pr r S d) : ∀ x, d = .tup [x] → Da r 12 S x ∨ Di r S x := fun x e => by
  subst e
  exact h.parts x (List.mem_singleton_self x)
theorem bl_all : ∀ bs : List Bool, (bs.map D.bl).mapM blOf = some bs
  | [] => rfl
  | b :: bs => by rw [List.map_cons, List.mapM_cons, bl_all bs]; rfl
/-- the program's look at a kind -/
theorem kind_f2 (n : Nat) (h : Tn r S d) : (fnN G (n + 2) 2 [d] S).Ok fun v S' => Ext S S' ∧ v = .bl (isK d) := by
  have hd : ∀ x, d = .tup [x] → Da r 12 S x ∨ Di r S x := fun x e => by subst e; exact h.head.w
  have e0 := plain_f1 (r := r) n h.ty hd
  generalize hF : fnN G (n + 2) = F
  refine run_okF hF f2 rfl rfl fun Y hf hg => ?_
  have g1 : Y.gv 2 = .int 6 := by rw [hg]; rfl
  have g2 : Y.gv 3 = .int 4 := by rw [hg]; rfl
  simp [f2]
  refine w_if rfl ?_
  have et := ty_tup h.ty
  cases d with
  | tup xs =>
    match xs with
    | [] =>
      simp [-Out.bind, hf, e0, plD, onlyIs]
      refine w_if rfl ?_
      simp [-Out.bind, et, isT, bi_len, eq_ii]
      refine w_ret rfl ?_
      simp [isK]
    | [x] =>
      cases hp : plD (.tup [x]) with
      | true =>
        simp [-Out.bind, hf, e0, hp]
        refine w_ret rfl ?_
        simp [plD, onlyIs] at hp
        simp [isK, hp]
      | false =>
        simp [-Out.bind, hf, e0, hp]
        refine w_if rfl ?_
        simp [-Out.bind, et, isT, bi_len, eq_ii]
        refine w_ret rfl ?_
        simp [plD, onlyIs] at hp
        simp [isK, hp]
    | x :: y :: z :: zs =>
      have hl : (((zs.length : Int) + 1 + 1 + 1) == 2) = false := beq_false_of_ne (by omega)
      simp [-Out.bind, hf, e0, plD, onlyIs]
      refine w_if rfl ?_
      simp [-Out.bind, et, isT, bi_len, eq_ii, hl]
      refine w_ret rfl ?_
      simp [isK]
    | [x, y] =>
      simp [-Out.bind, hf, e0, plD, onlyIs]
      refine w_if rfl ?_
      simp [-Out.bind, et, isT, bi_len, eq_ii]
      refine w_if rfl ?_
      have e1 := fun t => eq_w (t := t) h.head.w
      have hy := h.second
      have ey := whole_f0 n hy.ty
      have eyt := ty_tup hy.ty
      cases hr : strIs "row" x with
      | true =>
        simp [-Out.bind, at2_0, e1, hr]
        refine w_ret rfl ?_
        cases y with
        | int i =>
          simp [-Out.bind, at2_1, hf, ey, isI, g1]
          by_cases h1 : (1 : Int) ≤ i
          · simp [-Out.bind, h1, isK, hr, secRow]
          · simp [-Out.bind, h1, isK, hr, secRow]
        | _ => simp [-Out.bind, at2_1, hf, ey, isI, isK, hr, secRow]
      | false =>
        simp [-Out.bind, at2_0, e1, hr]
        refine w_if rfl ?_
        cases hc : strIs "record" x with
        | false =>
          simp [-Out.bind, at2_0, e1, hc]
          refine w_ret rfl ?_
          simp [isK, hr, hc]
        | true =>
          cases y with
          | tup ps =>
            by_cases hl : 1 ≤ ps.length ∧ ps.length ≤ 4
            · have l1 : (1 : Int) ≤ ps.length := by omega
              have l2 : (ps.length : Int) ≤ 4 := by omega
              simp [-Out.bind, at2_0, at2_1, e1, hc, eyt, isT, bi_len, l1, l2, g2]
              refine w_ret rfl ?_
              rw [ev_bi]
              refine Ok_bind ?_
              rw [evs_cons]
              refine Ok_bind ?_
              have ei : evI Y (.val (.idx (.var 0) (.con (.int 1)))) [some (.tup [x, .tup ps]), none] S = .ok (.tup ps) S := by simp [-Out.bind, at2_1]
              rw [ev_comp, ei, bind_ok, show wipeD [some (.tup [x, .tup ps]), none] ([((Str.ofString "part"), 1)].map (·.2)) = [some (.tup [x, .tup ps]), none] from rfl]
              have hpr := hy.parts
              rw [comp_pure (xs := ps) (fun d => [some (.tup [x, .tup ps]), some d]) (fun _ => true) (fun d => .bl (plD d)) (by simp only [lim]; omega) (fun i => rfl) (fun x hx => rfl) (fun x hx => by rw [evIfs_nil]) ?_]
              · have ef : ps.filter (fun _ => true) = ps := List.filter_eq_self.mpr fun _ _ => rfl
                rw [ef]
                have em : ps.map (fun d => D.bl (plD d)) = (ps.map plD).map D.bl := by rw [List.map_map]; rfl
                rw [em]
                have e5 : (seqAt (S ++ [.lst ((ps.map plD).map D.bl)]) (.ref S.length)).bind (fun xs => xs.mapM blOf) = some (ps.map plD) := by
                  simp only [seqAt, lstAt_last, Option.bind_some, bl_all]
                have e6 : biD .all1 [.ref S.length] (S ++ [.lst ((ps.map plD).map D.bl)]) = .ok (.bl ((ps.map plD).all id)) (S ++ [.lst ((ps.map plD).map D.bl)]) := by
                  simp only [biD, e5]
                simp only [bind_ok, new_eq, Ok_ok, evs_nil, e6]
                refine ⟨Ext_app _ _, ?_⟩
                have : (ps.map plD).all id = ps.all plD := by rw [List.all_map]; rfl
                rw [this]
                simp [isK, hr, hc, secRec, hl]
              · intro p hp _
                have := plain_f1 (r := r) n (hpr p hp).ty (hpr p hp).one
                simp [-Out.bind, hf, this]
            · have hs : secRec (.tup ps) = false := by simp [secRec, hl]
              have hlen : ev Y (.chain .LtE .LtE (.con (.int 1)) (.bi .len (.cons (.idx (.var 0) (.con (.int 1))) .nil)) (.glob 3)) [some (.tup [x, .tup ps]), none] S = .ok (.bl false) S := by
                by_cases l1 : (1 : Int) ≤ ps.length
                · have l2 : ¬ (ps.length : Int) ≤ 4 := by omega
                  simp [-Out.bind, at2_1, bi_len, l1, l2, g2]
                · simp [-Out.bind, at2_1, bi_len, l1, g2]
              simp [-Out.bind, -ev_chain, at2_0, at2_1, e1, hc, eyt, isT, hlen]
              refine w_ret rfl ?_
              simp [isK, hr, hc, hs]
          | _ =>
            simp [-Out.bind, at2_0, at2_1, e1, hc, eyt, isT]
            refine w_ret rfl ?_
            simp [isK, hr, hc, secRec]
  | _ =>
    simp [-Out.bind, hf, e0, plD, onlyIs]
    refine w_if rfl ?_
    simp [-Out.bind, et, isT]
    refine w_ret rfl ?_
    simp [isK]
end
end My

namespace My
open PySem L2 Mi
def plainK : Bool → Kd
  | false => .num
  | true => .truth
theorem plainK_D (b : Bool) : (plainK b).D = pD b := by cases b <;> rfl
theorem plainK_P (b : Bool) : (plainK b).P = pP b := by cases b <;> rfl
theorem plainKs_D : ∀ bs : List Bool, (bs.map plainK).map Kd.D = bs.map pD
  | [] => rfl
  | b :: bs => by simp [plainK_D]
def k1 (K L : Kd) : Bool := PyData.eqv K.P L.P
def ke (Ks Ls : List Kd) : Bool := PyData.eqvAll (Ks.map Kd.P) (Ls.map Kd.P)
theorem py_kds {S : Sto} {n : Nat} : ∀ Ks : List Kd, (Ks.map Kd.D).mapM (toPy S (n + 4)) = some (Ks.map Kd.P)
  | [] => rfl
  | K :: Ks => by rw [List.map_cons, List.mapM_cons, py_k, py_kds Ks]; rfl
theorem py_tup {S : Sto} {n : Nat} (Ks : List Kd) : toPy S (n + 5) (.tup (Ks.map Kd.D)) = some (.tuple (Ks.map Kd.P)) := by
  simp only [toPy, py_kds]; rfl
theorem py_lst {S : Sto} {n a : Nat} {Ks : List Kd} (h : S[a]? = some (.lst (Ks.map Kd.D))) : toPy S (n + 5) (.ref a) = some (.list (Ks.map Kd.P)) := by
  simp only [toPy, h, py_kds]; rfl
theorem eq_kk {S : Sto} (K L : Kd) : eqD S K.D L.D = some (k1 K L) := eqD_of (py_k (n := 36) K) (py_k (n := 36) L)
theorem eq_tt {S : Sto} (Ks Ls : List Kd) : eqD S (.tup (Ks.map Kd.D)) (.tup (Ls.map Kd.D)) = some (ke Ks Ls) := by
  rw [eqD_of (py_tup (n := 35) Ks) (py_tup (n := 35) Ls), q_tuple_tuple]; rfl
theorem eq_ll {S : Sto} {a b : Nat} {Ks Ls : List Kd} (h : S[a]? = some (.lst (Ks.map Kd.D))) (h2 : S[b]? = some (.lst (Ls.map Kd.D))) : eqD S (.ref a) (.ref b) = some (ke Ks Ls) := by
  rw [eqD_of (py_lst (n := 35) h) (py_lst (n := 35) h2), q_list_list]; rfl
theorem eqv_pp : ∀ bs : List Bool, PyData.eqvAll (bs.map pP) (bs.map pP) = true
  | [] => by simp
  | b :: bs => by
    rw [List.map_cons, qA_cons, eqv_pp bs]
    cases b <;> simp [pP]
theorem k1_self (K : Kd) : k1 K K = true := by
  cases K with
  | num => simp [k1, Kd.P, pP]
  | truth => simp [k1, Kd.P, pP]
  | row n => simp [k1, Kd.P]
  | rcd bs => simp [k1, Kd.P, eqv_pp]
theorem ke_self : ∀ Ks : List Kd, ke Ks Ks = true
  | [] => by simp [ke]
  | K :: Ks => by
    have a := ke_self Ks
    have b := k1_self K
    unfold ke at a ⊢
    unfold k1 at b
    rw [List.map_cons, qA_cons, a, b]; rfl
theorem ke_nil {Ks : List Kd} : ke Ks [] = Ks.isEmpty := by cases Ks <;> simp [ke]
theorem ke_cons {K L : Kd} {Ks Ls : List Kd} : ke (K :: Ks) (L :: Ls) = (k1 K L && ke Ks Ls) := by simp [ke, k1]
theorem ke_nc {L : Kd} {Ls : List Kd} : ke [] (L :: Ls) = false := by simp [ke]
/-- kinds are kinds -/
theorem isK_D {K : Kd} (h : K.ok) : isK K.D = true := by
  cases K with
  | num => simp [Kd.D, pD, isK, strIs]
  | truth => simp [Kd.D, pD, isK, strIs]
  | row n =>
    have := h.1
    have := h.2
    simp [Kd.D, isK, strIs, secRow]
    omega
  | rcd bs =>
    have h1 := h.1
    have h2 := h.2
    have hp : (bs.map pD).all plD = true := by
      rw [List.all_eq_true]
      intro x hx
      obtain ⟨b, _, rfl⟩ := List.mem_map.mp hx
      cases b <;> simp [pD, plD, onlyIs, strIs]
    simp [Kd.D, isK, strIs, secRec]
    simp at hp
    exact ⟨⟨h1, h2⟩, hp⟩
theorem kd_das {r : Nat → Prop} {S : Sto} : ∀ bs : List Bool, Das r 2 S (bs.map pD)
  | [] => .nil
  | b :: bs => .cons (.pd b) (kd_das bs)
theorem kd_da {r : Nat → Prop} {S : Sto} (K : Kd) : Da r 4 S K.D := by
  cases K with
  | num => exact (Da.pd false).mono (by decide : 2 ≤ 4)
  | truth => exact (Da.pd true).mono (by decide : 2 ≤ 4)
  | row n => exact (Da.tup (k := 1) (.cons (.str _) (.cons (.int _) .nil))).mono (by decide)
  | rcd bs => exact .tup (.cons (.str _) (.cons (.tup (kd_das bs)) .nil))
theorem kd_tn {r : Nat → Prop} {S : Sto} (K : Kd) : Tn r S K.D := .inl (.inl ((kd_da K).mono (by decide)))
theorem kind_yes (n : Nat) {K : Kd} (hK : K.ok) (S : Sto) : (fnN G (n + 2) 2 [K.D] S).Ok fun v S' => Ext S S' ∧ v = .bl true := by
  refine Ok_imp (kind_f2 (r := fun _ => False) n (kd_tn K)) ?_
  rintro v S' ⟨x, rfl⟩
  exact ⟨x, by rw [isK_D hK]⟩
/-- an extra that is no tuple -/
def NT (r : Nat → Prop) (S : Sto) (e : D) : Prop := (Da r 9 S e ∨ Di r S e) ∧ isT e = false
theorem NT.tn {r : Nat → Prop} {S : Sto} {e : D} (h : NT r S e) : Tn r S e := by
  rcases h.1 with h | h
  · exact .inl (.inl (h.mono (by decide)))
  · exact .inl (.inr h)
theorem NT.fr {r : Nat → Prop} {S S' : Sto} {e : D} (h : NT r S e) (f : FrR r S S') : NT r S' e := by
  refine ⟨?_, h.2⟩
  rcases h.1 with h | h
  · exact .inl (h.fr f)
  · exact .inr (h.fr f)
theorem NT.notK {r : Nat → Prop} {S : Sto} {e : D} (h : NT r S e) : isK e = false := by
  cases e with
  | tup xs => exact absurd h.2 (by simp [isT])
  | _ => rfl
/-- the part at a place -/
def partOf (e : D) (K : Kd) : Option Bool := match e with
  | .int i => if 0 ≤ i ∧ i < K.parts.length then K.parts[i.toNat]? else none
  | _ => none
def ob : Option Bool → D
  | some b => pD b
  | none => .non
theorem at_part {K : Kd} {i : Int} (h : 0 ≤ i ∧ i < K.parts.length) : ∃ b, K.parts[i.toNat]? = some b ∧ atI (K.parts.map pD) i = some (pD b) := by
  have hk : i.toNat < K.parts.length := by omega
  refine ⟨K.parts[i.toNat], List.getElem?_eq_getElem hk, ?_⟩
  have : ixN (K.parts.map pD).length i = some i.toNat := by
    unfold ixN
    rw [if_pos h.1, if_pos (by rw [List.length_map]; exact h.2)]
  rw [atI, this]
  simp [hk]
section
variable {r : Nat → Prop} {S : Sto} {e : D}
/-- part_at -/
theorem part_f6 (n : Nat) {K : Kd} (hK : K.ok) (he : TyO S e) : (fnN G (n + 3) 6 [e, K.D] S).Ok fun v S' => Ext S S' ∧ v = ob (partOf e K) := by
  generalize hF : fnN G (n + 3) = F
  refine run_okF hF f6 rfl rfl fun Y hf hg => ?_
  simp [f6]
  refine w_set rfl ?_
  simp [-Out.bind, lim]
  refine w_if rfl ?_
  obtain ⟨_, S1, e1, x1, rfl⟩ := (kind_yes n hK (S ++ [.lst []])).ex
  simp [-Out.bind, hf, e1]
  refine w_set rfl ?_
  obtain ⟨_, S2, e2, q, rfl, hq, x2⟩ := (parts_of_ok (n + 1) hK S1).ex
  simp [-Out.bind, hf, e2]
  have x12 : Ext S S2 := ((Ext_app S _).trans x1).trans x2
  have he2 : TyO S2 e := by
    cases e with
    | ref m => obtain ⟨o, h1, h2⟩ := he; exact ⟨o, x12.at h1, h2⟩
    | _ => trivial
  have ew := whole_f0 (n + 1) he2
  refine w_if rfl ?_
  cases e with
  | int i =>
    by_cases h0 : (0 : Int) ≤ i
    · by_cases h1 : i < K.parts.length
      · obtain ⟨b, hb, ha⟩ := at_part ⟨h0, h1⟩
        simp [-Out.bind, hf, ew, isI, h0, h1, bi_len, hq]
        refine w_ret rfl ?_
        have hp : ob (partOf (.int i) K) = pD b := by
          simp only [partOf]
          rw [if_pos ⟨h0, h1⟩, hb]
          rfl
        simp [-Out.bind, hq, ha, x12, hp]
      · simp [-Out.bind, hf, ew, isI, h0, h1, bi_len, hq]
        refine w_ret rfl ?_
        simp [-Out.bind, x12, partOf, h1, ob]
    · simp [-Out.bind, hf, ew, isI, h0, bi_len, hq]
      refine w_ret rfl ?_
      simp [-Out.bind, x12, partOf, h0, ob]
  | _ =>
    simp [-Out.bind, hf, ew, isI]
    refine w_ret rfl ?_
    simp [-Out.bind, x12, partOf, ob]
/-- the law's -/
theorem part_f20 (n : Nat) {K : Kd} (hK : K.ok) (he : TyO S e) : (fnN G (n + 2) 20 [e, K.D] S).Ok fun v S' => Ext S S' ∧ v = ob (partOf e K) := by
  generalize hF : fnN G (n + 2) = F
  refine run_okF hF f20 rfl rfl fun Y hf hg => ?_
  simp [f20]
  refine w_set rfl ?_
  obtain ⟨_, S2, e2, q, rfl, hq, x12⟩ := (parts_ok n hK S).ex
  simp [-Out.bind, hf, e2]
  have he2 : TyO S2 e := by
    cases e with
    | ref m => obtain ⟨o, h1, h2⟩ := he; exact ⟨o, x12.at h1, h2⟩
    | _ => trivial
  have t1 := ty_int he2
  have t2 := ty_bool he2
  refine w_if rfl ?_
  cases e with
  | int i =>
    by_cases h0 : (0 : Int) ≤ i
    · by_cases h1 : i < K.parts.length
      · obtain ⟨b, hb, ha⟩ := at_part ⟨h0, h1⟩
        simp [-Out.bind, t1, t2, isI, isB, h0, h1, bi_len, hq]
        refine w_ret rfl ?_
        have hp : ob (partOf (.int i) K) = pD b := by
          simp only [partOf]
          rw [if_pos ⟨h0, h1⟩, hb]
          rfl
        simp [-Out.bind, hq, ha, x12, hp]
      · simp [-Out.bind, t1, t2, isI, isB, h0, h1, bi_len, hq]
        refine w_ret rfl ?_
        simp [-Out.bind, x12, partOf, h1, ob]
    · simp [-Out.bind, t1, t2, isI, isB, h0, bi_len, hq]
      refine w_ret rfl ?_
      simp [-Out.bind, x12, partOf, h0, ob]
  | _ =>
    simp [-Out.bind, t1, t2, isI, isB]
    refine w_ret rfl ?_
    simp [-Out.bind, x12, partOf, ob]
end
end My

namespace My
open PySem L2 Mi
/-- what make, get, put give -/
def makeK (K : Kd) (Ks : List Kd) : D := if K.parts.isEmpty = false ∧ ke (K.parts.map plainK) Ks = true then K.D else .non
def getR (e : D) : List Kd → D
  | [K] => ob (partOf e K)
  | _ => .non
def putR (e : D) : List Kd → D
  | [K, L] => match partOf e K with
    | some b => if k1 (plainK b) L = true then K.D else .non
    | none => .non
  | _ => .non
theorem TyO.ext {S S' : Sto} {e : D} (h : TyO S e) (x : Ext S S') : TyO S' e := by
  cases e with
  | ref m => obtain ⟨o, h1, h2⟩ := h; exact ⟨o, x.at h1, h2⟩
  | _ => trivial
theorem str_strIs {a b : String} : strIs a (.str (Str.ofString b)) = decide (b = a) := ofStr_beq
theorem ke_kd (bs : List Bool) (Ks : List Kd) {S : Sto} {a : Nat} (h : S[a]? = some (.lst (bs.map pD))) : ∃ Ls : List Kd, bs.map plainK = Ls ∧ S[a]? = some (.lst (Ls.map Kd.D)) := ⟨_, rfl, by rw [plainKs_D]; exact h⟩
theorem kD_eq_pD {L : Kd} {S : Sto} {b : Bool} : eqD S (pD b) L.D = some (k1 (plainK b) L) := by
  rw [← plainK_D]; exact eq_kk _ _
theorem non_kd {L : Kd} {S : Sto} : eqD S .non L.D = some false := by
  rw [eqD_of (x := .none) (y := L.P) rfl (py_k (n := 36) L)]
  cases L with
  | num => simp [Kd.P, pP]
  | truth => simp [Kd.P, pP]
  | row n => simp [Kd.P]
  | rcd bs => simp [Kd.P]
theorem ob_isNon (o : Option Bool) : (ob o).isNon = o.isNone := by
  cases o with
  | none => rfl
  | some b => cases b <;> rfl
section
variable {S : Sto} {e : D}
theorem eqn_nil {a b : Nat} {bs : List Bool} (h : S[a]? = some (.lst (bs.map pD))) (h2 : S[b]? = some (.lst [])) : eqD S (.ref a) (.ref b) = some bs.isEmpty := by
  have h' : S[a]? = some (.lst ((bs.map plainK).map Kd.D)) := by rw [plainKs_D]; exact h
  have h2' : S[b]? = some (.lst (([] : List Kd).map Kd.D)) := h2
  rw [eq_ll h' h2', ke_nil]
  cases bs <;> rfl
/-- whole_kind, make, of a kind -/
theorem make_f7 (n : Nat) {K : Kd} (hK : K.ok) (Ks : List Kd) (hl : Ks.length ≤ 1000) (S : Sto) : (fnN G (n + 3) 7 [.str "make", K.D, .tup (Ks.map Kd.D)] S).Ok fun v S' => Ext S S' ∧ v = makeK K Ks := by
  generalize hF : fnN G (n + 3) = F
  refine run_okF hF f7 rfl rfl fun Y hf hg => ?_
  simp [f7]
  refine w_if rfl ?_
  simp [-Out.bind, eq_ss]
  refine w_if rfl ?_
  obtain ⟨_, S1, e1, x1, rfl⟩ := (kind_yes n hK S).ex
  obtain ⟨_, S2, e2, q2, rfl, hq2, x2⟩ := (parts_of_ok (n + 1) hK S1).ex
  have en : eqD (S2 ++ [.lst []]) (.ref q2) (.ref S2.length) = some K.parts.isEmpty := eqn_nil ((Ext_app S2 _).at hq2) (by simp)
  obtain ⟨_, S3, e3, q3, rfl, hq3, x3⟩ := (parts_of_ok (n + 1) hK (S2 ++ [.lst []])).ex
  have et : eqD S3 (.tup (K.parts.map pD)) (.tup (Ks.map Kd.D)) = some (ke (K.parts.map plainK) Ks) := by
    rw [← plainKs_D]; exact eq_tt _ _
  have x : Ext S (S2 ++ [.lst []]) := (x1.trans x2).trans (Ext_app _ _)
  cases hp : K.parts.isEmpty with
  | true =>
    rw [hp] at en
    simp [-Out.bind, hf, e1, e2, en, lim]
    refine w_ret rfl ?_
    simp [makeK, hp, x]
  | false =>
    rw [hp] at en
    cases hk : ke (K.parts.map plainK) Ks with
    | true =>
      rw [hk] at et
      simp [-Out.bind, hf, e1, e2, en, lim, e3, biD, seqAt, lstAt, hq3, et]
      refine w_ret rfl ?_
      simp [-Out.bind, makeK, hp, hk, x.trans x3]
    | false =>
      rw [hk] at et
      simp [-Out.bind, hf, e1, e2, en, lim, e3, biD, seqAt, lstAt, hq3, et]
      refine w_ret rfl ?_
      simp [-Out.bind, makeK, hp, hk, x.trans x3]
/-- .. of what is none -/
theorem make_f7n (n : Nat) {r : Nat → Prop} (h : NT r S e) (ks : D) : (fnN G (n + 3) 7 [.str "make", e, ks] S).Ok fun v S' => Ext S S' ∧ v = .non := by
  generalize hF : fnN G (n + 3) = F
  refine run_okF hF f7 rfl rfl fun Y hf hg => ?_
  simp [f7]
  refine w_if rfl ?_
  simp [-Out.bind, eq_ss]
  refine w_if rfl ?_
  obtain ⟨_, S1, e1, x1, rfl⟩ := (kind_f2 n h.tn).ex
  rw [h.notK] at e1
  simp [-Out.bind, hf, e1]
  refine w_ret rfl ?_
  simp [x1]
theorem get_f7 (n : Nat) (he : TyO S e) {Ks : List Kd} (hK : ∀ K ∈ Ks, K.ok) (hl : Ks.length ≤ 1000) : (fnN G (n + 4) 7 [.str "get", e, .tup (Ks.map Kd.D)] S).Ok fun v S' => Ext S S' ∧ v = getR e Ks := by
  generalize hF : fnN G (n + 4) = F
  refine run_okF hF f7 rfl rfl fun Y hf hg => ?_
  simp [f7]
  refine w_if rfl ?_
  simp [-Out.bind, eq_ss]
  refine w_if rfl ?_
  match Ks with
  | [] =>
    simp [-Out.bind, eq_ss, bi_len, biD, eq_ii]
    refine w_ret rfl ?_
    simp [getR]
  | K :: L :: r =>
    have hl1 : (((r.length : Int) + 1 + 1) == 1) = false := beq_false_of_ne (by omega)
    simp [-Out.bind, eq_ss, bi_len, biD, eq_ii, hl1]
    refine w_ret rfl ?_
    simp [getR]
  | [K] =>
    simp [-Out.bind, eq_ss, bi_len, biD, eq_ii]
    refine w_set rfl ?_
    obtain ⟨_, S1, e1, x1, rfl⟩ := (part_f6 n (hK K (List.mem_singleton_self K)) he).ex
    simp [-Out.bind, at1_0, hf, e1]
    refine w_if rfl ?_
    simp [-Out.bind, eq_ss]
    refine w_ret rfl ?_
    simp [-Out.bind, getR, x1]
theorem put_f7 (n : Nat) (he : TyO S e) {Ks : List Kd} (hK : ∀ K ∈ Ks, K.ok) (hl : Ks.length ≤ 1000) : (fnN G (n + 4) 7 [.str "put", e, .tup (Ks.map Kd.D)] S).Ok fun v S' => Ext S S' ∧ v = putR e Ks := by
  generalize hF : fnN G (n + 4) = F
  refine run_okF hF f7 rfl rfl fun Y hf hg => ?_
  simp [f7]
  refine w_if rfl ?_
  simp [-Out.bind, eq_ss]
  refine w_if rfl ?_
  match Ks with
  | [] =>
    simp [-Out.bind, eq_ss, bi_len, biD, eq_ii]
    refine w_ret rfl ?_
    simp [putR]
  | [K] =>
    simp [-Out.bind, eq_ss, bi_len, biD, eq_ii]
    refine w_ret rfl ?_
    simp [putR]
  | K :: L :: M :: r =>
    have hl1 : (((r.length : Int) + 1 + 1 + 1) == 2) = false := beq_false_of_ne (by omega)
    simp [-Out.bind, eq_ss, bi_len, biD, eq_ii, hl1]
    refine w_ret rfl ?_
    simp [putR]
  | [K, L] =>
    simp [-Out.bind, eq_ss, bi_len, biD, eq_ii]
    refine w_set rfl ?_
    obtain ⟨_, S1, e1, x1, rfl⟩ := (part_f6 n (hK K (by simp)) he).ex
    simp [-Out.bind, at2_0, hf, e1]
    refine w_if rfl ?_
    simp [-Out.bind, eq_ss]
    refine w_if rfl ?_
    cases hp : partOf e K with
    | none =>
      simp [-Out.bind, ob]
      refine w_ret rfl ?_
      simp [putR, hp, x1]
    | some b =>
      have hn : (pD b).isNon = false := by cases b <;> rfl
      cases hk : k1 (plainK b) L with
      | true =>
        simp [-Out.bind, ob, hn, at2_1, kD_eq_pD, hk]
        refine w_ret rfl ?_
        simp [-Out.bind, at2_0, putR, hp, x1, hk]
      | false =>
        simp [-Out.bind, ob, hn, at2_1, kD_eq_pD, hk]
        refine w_ret rfl ?_
        simp [putR, hp, x1, hk]
end
end My

namespace My
open PySem L2 Mi
section
variable {S : Sto} {e : D}
theorem eq_non_kd {L : Kd} {S : Sto} (o : Option Bool) : eqD S (ob o) L.D = some (match o with | some b => k1 (plainK b) L | none => false) := by
  cases o with
  | none => exact non_kd
  | some b => exact kD_eq_pD
/-- the law's due_whole: make of a kind -/
theorem make_f22 (n : Nat) {K : Kd} (hK : K.ok) {Ks : List Kd} {q : Nat} (hq : S[q]? = some (.lst (Ks.map Kd.D))) : (fnN G (n + 3) 22 [.str "make", K.D, .ref q] S).Ok fun v S' => Ext S S' ∧ v = makeK K Ks := by
  generalize hF : fnN G (n + 3) = F
  refine run_okF hF f22 rfl rfl fun Y hf hg => ?_
  simp [f22]
  refine w_if rfl ?_
  simp [-Out.bind, eq_ss]
  refine w_ret rfl ?_
  have hlst : ev Y (.lst (.cons (.con .non) (.cons (.var 1) .nil))) [some (.str "make"), some K.D, some (.ref q)] S = .ok (.ref S.length) (S ++ [.lst [.non, K.D]]) := by
    simp [-Out.bind, lim]
  rw [ev_idx, hlst, bind_ok]
  have x0 : Ext S (S ++ [.lst [.non, K.D]]) := ⟨_, rfl⟩
  have hq0 := x0.at hq
  have hs0 : (S ++ [MO.lst [.non, K.D]])[S.length]? = some (.lst [.non, K.D]) := by simp
  generalize S ++ [MO.lst [.non, K.D]] = S0 at x0 hq0 hs0
  -- is_whole_kind
  have hw : fnN G (n + 2) 21 [K.D] S0 = .ok (.bl (!K.parts.isEmpty)) S0 := by
    have z : (fnN G (n + 2) 21 [K.D] S0).Ok fun v S' => S' = S0 ∧ v = .bl (!K.parts.isEmpty) := by
      refine run_ok f21 rfl rfl fun Y hf hg => ?_
      simp [f21]
      refine w_ret rfl ?_
      have t1 : ∀ xs, isTys S0 (.tup xs) [.b .tuple] = some true := fun xs => rfl
      have aw := fun (w : String) => any_ws (r := fun _ => False) (S := S0) ["row", "record"] (.inl (.str w))
      simp only [List.map_cons, List.map_nil, List.any_cons, List.any_nil] at aw
      cases K with
      | num => simp [-Out.bind, Kd.D, pD, t1, bi_len, eq_ii, Kd.parts]
      | truth => simp [-Out.bind, Kd.D, pD, t1, bi_len, eq_ii, Kd.parts]
      | row m =>
        have hm := hK.1
        have he : (List.replicate m false).isEmpty = false := by
          cases m with
          | zero => omega
          | succ m => rfl
        simp [-Out.bind, Kd.D, t1, bi_len, eq_ii, Kd.parts, at2_0, lim, aw, str_strIs, he]
      | rcd bs =>
        have he : bs.isEmpty = false := by
          have := hK.1
          cases bs with
          | nil => simp at this
          | cons b bs => rfl
        simp [-Out.bind, Kd.D, t1, bi_len, eq_ii, Kd.parts, at2_0, lim, aw, str_strIs, he]
    obtain ⟨v, S', e, rfl, rfl⟩ := z.ex
    exact e
  obtain ⟨_, S1, e1, q1, rfl, hq1, x1⟩ := (parts_ok (n + 1) hK S0).ex
  have hq1' : S1[q1]? = some (.lst ((K.parts.map plainK).map Kd.D)) := by rw [plainKs_D]; exact hq1
  have ek := eq_ll hq1' (x1.at hq0)
  have hs1 := x1.at hs0
  cases hp : K.parts.isEmpty with
  | true =>
    rw [hp] at hw
    simp [-Out.bind, hf, hw, biD, hs0, at2_0, makeK, hp, x0]
  | false =>
    rw [hp] at hw
    cases hk : ke (K.parts.map plainK) Ks with
    | true =>
      rw [hk] at ek
      simp [-Out.bind, hf, hw, e1, ek, biD, hs1, at2_1, makeK, hp, hk, x0.trans x1]
    | false =>
      rw [hk] at ek
      simp [-Out.bind, hf, hw, e1, ek, biD, hs1, at2_0, makeK, hp, hk, x0.trans x1]
theorem make_f22n (n : Nat) {r : Nat → Prop} (h : NT r S e) (ks : D) : (fnN G (n + 2) 22 [.str "make", e, ks] S).Ok fun v S' => Ext S S' ∧ v = .non := by
  generalize hF : fnN G (n + 2) = F
  refine run_okF hF f22 rfl rfl fun Y hf hg => ?_
  simp [f22]
  refine w_if rfl ?_
  simp [-Out.bind, eq_ss]
  refine w_ret rfl ?_
  have hlst : ev Y (.lst (.cons (.con .non) (.cons (.var 1) .nil))) [some (.str "make"), some e, some ks] S = .ok (.ref S.length) (S ++ [.lst [.non, e]]) := by
    simp [-Out.bind, lim]
  rw [ev_idx, hlst, bind_ok]
  have x0 : Ext S (S ++ [.lst [.non, e]]) := ⟨_, rfl⟩
  have hs0 : (S ++ [MO.lst [.non, e]])[S.length]? = some (.lst [.non, e]) := by simp
  have h0 := h.fr (FrR.ext x0)
  generalize S ++ [MO.lst [.non, e]] = S0 at x0 hs0 h0
  have hw : fnN G (n + 1) 21 [e] S0 = .ok (.bl false) S0 := by
    have z : (fnN G (n + 1) 21 [e] S0).Ok fun v S' => S' = S0 ∧ v = .bl false := by
      refine run_ok f21 rfl rfl fun Y hf hg => ?_
      simp [f21]
      refine w_ret rfl ?_
      have t1 := ty_tup h0.tn.ty
      rw [h0.2] at t1
      simp [-Out.bind, t1]
    obtain ⟨v, S', e, rfl, rfl⟩ := z.ex
    exact e
  simp [-Out.bind, hf, hw, biD, hs0, at2_0, x0]
theorem get_f22 (n : Nat) (he : TyO S e) {Ks : List Kd} (hK : ∀ K ∈ Ks, K.ok) {q : Nat} (hq : S[q]? = some (.lst (Ks.map Kd.D))) : (fnN G (n + 3) 22 [.str "get", e, .ref q] S).Ok fun v S' => Ext S S' ∧ v = getR e Ks := by
  generalize hF : fnN G (n + 3) = F
  refine run_okF hF f22 rfl rfl fun Y hf hg => ?_
  simp [f22]
  refine w_if rfl ?_
  simp [-Out.bind, eq_ss]
  refine w_if rfl ?_
  match Ks with
  | [] =>
    simp [-Out.bind, eq_ss, bi_len, hq, eq_ii]
    refine w_if rfl ?_
    simp [-Out.bind, eq_ss]
    refine w_ret rfl ?_
    simp [getR]
  | K :: L :: r =>
    have hl1 : (((r.length : Int) + 1 + 1) == 1) = false := beq_false_of_ne (by omega)
    simp [-Out.bind, eq_ss, bi_len, hq, eq_ii, hl1]
    refine w_if rfl ?_
    simp [-Out.bind, eq_ss]
    refine w_ret rfl ?_
    simp [getR]
  | [K] =>
    simp [-Out.bind, eq_ss, bi_len, hq, eq_ii]
    refine w_ret rfl ?_
    obtain ⟨_, S1, e1, x1, rfl⟩ := (part_f20 n (hK K (List.mem_singleton_self K)) he).ex
    simp [-Out.bind, hq, at1_0, hf, e1, getR, x1]
theorem put_f22 (n : Nat) (he : TyO S e) {Ks : List Kd} (hK : ∀ K ∈ Ks, K.ok) {q : Nat} (hq : S[q]? = some (.lst (Ks.map Kd.D))) : (fnN G (n + 3) 22 [.str "put", e, .ref q] S).Ok fun v S' => Ext S S' ∧ v = putR e Ks := by
  generalize hF : fnN G (n + 3) = F
  refine run_okF hF f22 rfl rfl fun Y hf hg => ?_
  simp [f22]
  refine w_if rfl ?_
  simp [-Out.bind, eq_ss]
  refine w_if rfl ?_
  simp [-Out.bind, eq_ss]
  refine w_if rfl ?_
  match Ks with
  | [] =>
    simp [-Out.bind, eq_ss, bi_len, hq, eq_ii]
    refine w_ret rfl ?_
    simp [putR]
  | [K] =>
    simp [-Out.bind, eq_ss, bi_len, hq, eq_ii]
    refine w_ret rfl ?_
    simp [putR]
  | K :: L :: M :: r =>
    have hl1 : (((r.length : Int) + 1 + 1 + 1) == 2) = false := beq_false_of_ne (by omega)
    simp [-Out.bind, eq_ss, bi_len, hq, eq_ii, hl1]
    refine w_ret rfl ?_
    simp [putR]
  | [K, L] =>
    obtain ⟨_, S1, e1, x1, rfl⟩ := (part_f20 n (hK K (by simp)) he).ex
    have en := eq_non_kd (L := L) (S := S1) (partOf e K)
    have hq1 := x1.at hq
    cases hp : partOf e K with
    | none =>
      rw [hp] at en e1
      simp only at en
      simp [-Out.bind, eq_ss, bi_len, hq, eq_ii, at2_0, hf, e1, hq1, at2_1, en]
      refine w_ret rfl ?_
      simp [putR, hp, x1]
    | some b =>
      rw [hp] at en e1
      simp only at en
      cases hk : k1 (plainK b) L with
      | true =>
        rw [hk] at en
        simp [-Out.bind, eq_ss, bi_len, hq, eq_ii, at2_0, hf, e1, hq1, at2_1, en]
        refine w_ret rfl ?_
        simp [-Out.bind, hq1, at2_0, putR, hp, x1, hk]
      | false =>
        rw [hk] at en
        simp [-Out.bind, eq_ss, bi_len, hq, eq_ii, at2_0, hf, e1, hq1, at2_1, en]
        refine w_ret rfl ?_
        simp [putR, hp, x1, hk]
end
end My

namespace My
open PySem L2 Mi
def isRow : Kd → Bool
  | .row _ => true
  | _ => false
def Kd.word : Kd → String
  | .num => "num"
  | .truth => "truth"
  | .row _ => "row"
  | .rcd _ => "record"
theorem word_row (K : Kd) : decide (K.word = "row") = isRow K := by cases K <;> simp [Kd.word, isRow]
theorem idx_word {S : Sto} (K : Kd) : idxD K.D (.int 0) S = .ok (.str K.word) S := by
  cases K <;> simp [Kd.D, pD, Kd.word, atI, ixN]
theorem cut_tail {x : D} {xs : List D} : cutD (x :: xs) (some 1) none = xs := by
  have h : HT.sIx (x :: xs).length 0 (some 1) = 1 := by
    have := HT.sIx_nat (x :: xs).length 0 1
    rw [show ((1 : Nat) : Int) = 1 from rfl] at this
    rw [this, List.length_cons]; omega
  unfold cutD
  rw [h, HT.sIx_none]
  simp
theorem cut_head {x : D} {xs : List D} : cutD (x :: xs) none (some 1) = [x] := by
  have h : HT.sIx (x :: xs).length (x :: xs).length (some 1) = 1 := by
    have := HT.sIx_nat (x :: xs).length (x :: xs).length 1
    rw [show ((1 : Nat) : Int) = 1 from rfl] at this
    rw [this, List.length_cons]; omega
  unfold cutD
  rw [h, HT.sIx_none]
  simp
/-- what pick and lay give -/
def pickR : List Kd → D
  | K :: r => if ke r [.num] = true ∧ isRow K = true then pD false else .non
  | [] => .non
def layR : List Kd → D
  | K :: r => if ke r [.num, .num] = true ∧ isRow K = true then K.D else .non
  | [] => .non
section
variable {S : Sto}
theorem pick_f8 (n : Nat) {K : Kd} {r : List Kd} (hK : K.ok) (hl : r.length ≤ 1000) : (fnN G (n + 3) 8 [.str "pick", .tup ((K :: r).map Kd.D)] S).Ok fun v S' => Ext S S' ∧ v = pickR (K :: r) := by
  generalize hF : fnN G (n + 3) = F
  refine run_okF hF f8 rfl rfl fun Y hf hg => ?_
  have g0 : Y.gv 0 = pD false := by rw [hg]; rfl
  simp [f8]
  refine w_if rfl ?_
  have e0 : eqD S (.tup (r.map Kd.D)) (.tup [pD false]) = some (ke r [.num]) := eq_tt r [.num]
  cases hk : ke r [.num] with
  | false =>
    rw [hk] at e0
    simp [-Out.bind, cut_tail, g0, lim, eq_ss, biD, binD_repT1, e0]
    refine w_ret rfl ?_
    simp [pickR, hk]
  | true =>
    rw [hk] at e0
    obtain ⟨_, S1, e1, x1, rfl⟩ := (kind_yes n hK S).ex
    have wr := word_row K
    cases hr : isRow K with
    | false =>
      rw [hr] at wr
      have wr' : ¬ K.word = "row" := of_decide_eq_false wr
      simp [-Out.bind, cut_tail, g0, lim, eq_ss, biD, binD_repT1, e0, at1_0, atI, ixN, hf, e1, idx_word, wr']
      refine w_ret rfl ?_
      simp [pickR, hk, hr, x1]
    | true =>
      rw [hr] at wr
      have wr' : K.word = "row" := of_decide_eq_true wr
      simp [-Out.bind, cut_tail, g0, lim, eq_ss, biD, binD_repT1, e0, at1_0, atI, ixN, hf, e1, idx_word, wr']
      refine w_if rfl ?_
      simp [-Out.bind, eq_ss]
      refine w_ret rfl ?_
      simp [-Out.bind, g0, pickR, hk, hr, x1]
theorem lay_f8 (n : Nat) {K : Kd} {r : List Kd} (hK : K.ok) (hl : r.length ≤ 1000) : (fnN G (n + 3) 8 [.str "lay", .tup ((K :: r).map Kd.D)] S).Ok fun v S' => Ext S S' ∧ v = layR (K :: r) := by
  generalize hF : fnN G (n + 3) = F
  refine run_okF hF f8 rfl rfl fun Y hf hg => ?_
  have g0 : Y.gv 0 = pD false := by rw [hg]; rfl
  simp [f8]
  refine w_if rfl ?_
  have e0 : eqD S (.tup (r.map Kd.D)) (.tup [pD false, pD false]) = some (ke r [.num, .num]) := eq_tt r [.num, .num]
  have em : binD .Mult (.tup [pD false]) (.int 2) S = .ok (.tup [pD false, pD false]) S := binD_repT (by simp) (by decide) (by decide) (by simp)
  cases hk : ke r [.num, .num] with
  | false =>
    rw [hk] at e0
    simp [-Out.bind, cut_tail, g0, lim, eq_ss, biD, em, e0]
    refine w_ret rfl ?_
    simp [layR, hk]
  | true =>
    rw [hk] at e0
    obtain ⟨_, S1, e1, x1, rfl⟩ := (kind_yes n hK S).ex
    have wr := word_row K
    cases hr : isRow K with
    | false =>
      rw [hr] at wr
      have wr' : ¬ K.word = "row" := of_decide_eq_false wr
      simp [-Out.bind, cut_tail, g0, lim, eq_ss, biD, em, e0, at1_0, atI, ixN, hf, e1, idx_word, wr']
      refine w_ret rfl ?_
      simp [layR, hk, hr, x1]
    | true =>
      rw [hr] at wr
      have wr' : K.word = "row" := of_decide_eq_true wr
      simp [-Out.bind, cut_tail, g0, lim, eq_ss, biD, em, e0, at1_0, atI, ixN, hf, e1, idx_word, wr']
      refine w_if rfl ?_
      simp [-Out.bind, eq_ss]
      refine w_ret rfl ?_
      simp [-Out.bind, atI, ixN, layR, hk, hr, x1]
theorem any3 {w : String} (ws : List String) : anyEq S (.str w) (ws.map fun (w : String) => D.str w) = some (ws.any fun (t : String) => decide (w = t)) := by
  rw [any_ws (r := fun _ => False) ws (.inl (.str w))]
  congr 1
  congr 1
  funext t
  exact str_strIs
def tabW (w : String) : List Bool := if w = "and" ∨ w = "or" then [true, true] else if w = "not" then [true] else if w = "neg" then [false] else [false, false]
def tabR (w : String) : Bool := if w = "and" ∨ w = "or" then true else if w = "not" then true else if w = "neg" then false else if w = "less" ∨ w = "same" then true else false
theorem plain_f9 (n : Nat) (w : String) (S : Sto) : fnN G (n + 1) 9 [.str w] S = .ok (.tup [.tup ((tabW w).map pD), pD (tabR w)]) S := by
  have q : (fnN G (n + 1) 9 [.str w] S).Ok fun v S' => S' = S ∧ v = .tup [.tup ((tabW w).map pD), pD (tabR w)] := by
    refine run_ok f9 rfl rfl fun Y hf hg => ?_
    have g0 : Y.gv 0 = pD false := by rw [hg]; rfl
    have g1 : Y.gv 1 = pD true := by rw [hg]; rfl
    have a1 := any3 (S := S) (w := w) ["and", "or"]
    have a2 := any3 (S := S) (w := w) ["less", "same"]
    simp only [List.map_cons, List.map_nil, List.any_cons, List.any_nil, Bool.or_false] at a1 a2
    simp [f9]
    refine w_if rfl ?_
    by_cases h1 : w = "and" ∨ w = "or"
    · have h1' : (decide (w = "and") || decide (w = "or")) = true := by simpa using h1
      rw [h1'] at a1
      simp [-Out.bind, lim, a1]
      refine w_ret rfl ?_
      simp [-Out.bind, lim, g1, tabW, tabR, h1]
    · have h1' : (decide (w = "and") || decide (w = "or")) = false := by simpa using h1
      rw [h1'] at a1
      simp [-Out.bind, lim, a1]
      refine w_if rfl ?_
      by_cases h2 : w = "not"
      · simp [-Out.bind, eq_ss, h2]
        refine w_ret rfl ?_
        simp [-Out.bind, lim, g1, tabW, tabR]
      · simp [-Out.bind, eq_ss, h2]
        refine w_if rfl ?_
        by_cases h3 : w = "neg"
        · simp [-Out.bind, eq_ss, h3]
          refine w_ret rfl ?_
          simp [-Out.bind, lim, g0, tabW, tabR]
        · simp [-Out.bind, eq_ss, h3]
          refine w_if rfl ?_
          by_cases h4 : w = "less" ∨ w = "same"
          · have h4' : (decide (w = "less") || decide (w = "same")) = true := by simpa using h4
            rw [h4'] at a2
            simp [-Out.bind, lim, a2]
            refine w_ret rfl ?_
            simp [-Out.bind, lim, g0, g1, tabW, tabR, h1, h2, h3, h4]
          · have h4' : (decide (w = "less") || decide (w = "same")) = false := by simpa using h4
            rw [h4'] at a2
            simp [-Out.bind, lim, a2]
            refine w_ret rfl ?_
            simp [-Out.bind, lim, g0, tabW, tabR, h1, h2, h3, h4]
  obtain ⟨v, S', e, rfl, rfl⟩ := q.ex
  exact e
end
end My

namespace My
open PySem L2 Mi
/-- an extra -/
inductive Ex where
  | kd (K : Kd) | nt (e : D)
def Ex.D : Ex → D
  | .kd K => K.D
  | .nt e => e
def Ex.ok (r : Nat → Prop) (S : Sto) : Ex → Prop
  | .kd K => K.ok
  | .nt e => NT r S e
theorem Ex.ok.fr {r : Nat → Prop} {S S' : Sto} {x : Ex} (h : x.ok r S) (f : FrR r S S') : x.ok r S' := by
  cases x with
  | kd K => exact h
  | nt e => exact NT.fr h f
theorem Ex.ok.ty {r : Nat → Prop} {S : Sto} {x : Ex} (h : x.ok r S) : TyO S x.D := by
  cases x with
  | kd K => exact (kd_tn (r := r) K).ty
  | nt e => exact (NT.tn h).ty
def pureW : List String := ["copy", "neg", "add", "sub", "less", "same", "and", "or", "not", "make", "get", "put"]
def riskW : List String := ["mul", "div", "mod", "pick", "lay"]
def tableR (w : String) (Ks : List Kd) : D := if ke Ks ((tabW w).map plainK) = true then pD (tabR w) else .non
/-- what an operation gives -/
def resR (w : String) (x : Ex) (Ks : List Kd) : D :=
  if w = "make" then (match x with
    | .kd K => makeK K Ks
    | .nt _ => .non)
  else if w = "get" then getR x.D Ks
  else if w = "put" then putR x.D Ks
  else if x.D.isNon = false then .non
  else if w = "copy" then (match Ks with
    | [K] => K.D
    | _ => .non)
  else if w = "pick" then pickR Ks
  else if w = "lay" then layR Ks
  else tableR w Ks
theorem make3 {S : Sto} {w : String} : anyEq S (.str w) [.str "make", .str "get", .str "put"] = some (decide (w = "make") || (decide (w = "get") || decide (w = "put"))) := by
  have a1 := any3 (S := S) (w := w) ["make", "get", "put"]
  simpa using a1
theorem pick2 {S : Sto} {w : String} : anyEq S (.str w) [.str "pick", .str "lay"] = some (decide (w = "pick") || decide (w = "lay")) := by
  have a1 := any3 (S := S) (w := w) ["pick", "lay"]
  simpa using a1
theorem pure_f4 (n : Nat) (w : String) (S : Sto) : fnN G (n + 1) 4 [.str w] S = .ok (.bl (pureW.any fun t => decide (w = t))) S := by
  have q : (fnN G (n + 1) 4 [.str w] S).Ok fun v S' => S' = S ∧ v = .bl (pureW.any fun t => decide (w = t)) := by
    refine run_ok f4 rfl rfl fun Y hf hg => ?_
    have g4 : Y.gv 4 = .tup (pureW.map fun (w : String) => D.str w) := by rw [hg]; rfl
    simp [f4]
    refine w_ret rfl ?_
    rw [ev_cmp, ev_var (d := .str w) rfl, bind_ok, ev_glob, bind_ok, g4, cmpD_in, inD_tup, any3]
    exact .mk ⟨rfl, rfl⟩
  obtain ⟨v, S', e, rfl, rfl⟩ := q.ex
  exact e
theorem risk_f5 (n : Nat) (w : String) (S : Sto) : fnN G (n + 1) 5 [.str w] S = .ok (.bl (riskW.any fun t => decide (w = t))) S := by
  have q : (fnN G (n + 1) 5 [.str w] S).Ok fun v S' => S' = S ∧ v = .bl (riskW.any fun t => decide (w = t)) := by
    refine run_ok f5 rfl rfl fun Y hf hg => ?_
    have g4 : Y.gv 5 = .tup (riskW.map fun (w : String) => D.str w) := by rw [hg]; rfl
    simp [f5]
    refine w_ret rfl ?_
    rw [ev_cmp, ev_var (d := .str w) rfl, bind_ok, ev_glob, bind_ok, g4, cmpD_in, inD_tup, any3]
    exact .mk ⟨rfl, rfl⟩
  obtain ⟨v, S', e, rfl, rfl⟩ := q.ex
  exact e
theorem ke_empty {w : String} : ke [] ((tabW w).map plainK) = false := by
  unfold tabW
  split
  · exact ke_nc
  · split
    · exact ke_nc
    · split
      · exact ke_nc
      · exact ke_nc
theorem eqt_nil {S : Sto} {Ks : List Kd} : eqD S (.tup (Ks.map Kd.D)) (.tup []) = some Ks.isEmpty := by
  have := eq_tt (S := S) Ks []
  rw [ke_nil] at this
  exact this
section
variable {r : Nat → Prop} {S : Sto}
/-- the program's result_kind -/
theorem res_f10 (n : Nat) {w : String} (hw : (pureW.any fun t => decide (w = t)) = true ∨ (riskW.any fun t => decide (w = t)) = true) {x : Ex} (hx : x.ok r S) {Ks : List Kd} (hK : ∀ K ∈ Ks, K.ok) (hl : Ks.length ≤ 900)
    {kd : D} (hkd : biD .tup1 [kd] S = .ok (.tup (Ks.map Kd.D)) S) : (fnN G (n + 5) 10 [.str w, x.D, kd] S).Ok fun v S' => Ext S S' ∧ v = resR w x Ks := by
  generalize hF : fnN G (n + 5) = F
  refine run_okF hF f10 rfl rfl fun Y hf hg => ?_
  simp [f10]
  refine w_set rfl ?_
  simp [-Out.bind, hkd]
  refine w_if rfl ?_
  by_cases m1 : w = "make"
  · subst m1
    simp [-Out.bind, lim, make3]
    refine w_ret rfl ?_
    cases x with
    | kd K =>
      obtain ⟨_, S1, e1, x1, rfl⟩ := (make_f7 (n + 1) hx Ks (by omega) S).ex
      simp [-Out.bind, Ex.D, hf, e1, resR, x1]
    | nt e =>
      obtain ⟨_, S1, e1, x1, rfl⟩ := (make_f7n (n + 1) hx (.tup (Ks.map Kd.D))).ex
      simp [-Out.bind, Ex.D, hf, e1, resR, x1]
  by_cases m2 : w = "get"
  · subst m2
    simp [-Out.bind, lim, make3]
    refine w_ret rfl ?_
    obtain ⟨_, S1, e1, x1, rfl⟩ := (get_f7 n hx.ty hK (by omega)).ex
    simp [-Out.bind, hf, e1, resR, x1]
  by_cases m3 : w = "put"
  · subst m3
    simp [-Out.bind, lim, make3]
    refine w_ret rfl ?_
    obtain ⟨_, S1, e1, x1, rfl⟩ := (put_f7 n hx.ty hK (by omega)).ex
    simp [-Out.bind, hf, e1, resR, x1]
  simp [-Out.bind, lim, make3, m1, m2, m3]
  refine w_if rfl ?_
  cases hn : x.D.isNon with
  | false =>
    simp [-Out.bind, hn]
    refine w_ret rfl ?_
    simp [resR, m1, m2, m3, hn]
  | true =>
    have p4 := pure_f4 (n + 3) w S
    have p5 := risk_f5 (n + 3) w S
    cases Ks with
    | nil =>
      have z := eqt_nil (S := S) (Ks := [])
      simp [-Out.bind, hn, lim] at z ⊢
      simp [-Out.bind, z]
      refine w_ret rfl ?_
      simp [resR, m1, m2, m3, hn, pickR, layR, tableR, ke_empty]
    | cons K Kr =>
      have z : eqD S (.tup ((K :: Kr).map Kd.D)) (.tup []) = some false := eqt_nil
      have hwf : (!(pureW.any fun t => decide (w = t)) && !(riskW.any fun t => decide (w = t))) = false := by
        rcases hw with h | h <;> rw [h] <;> simp
      have hKo : K.ok := hK K (List.mem_cons_self ..)
      have hlr : Kr.length ≤ 900 := by simp at hl; omega
      generalize hks : (K :: Kr).map Kd.D = ks at z ⊢
      have hln : (ks.length : Int) = Kr.length + 1 := by rw [← hks]; simp
      have hat : atI ks 0 = some K.D := by rw [← hks]; simp [atI, ixN]
      have guard : ev Y (.or_ (.cons (.cmp .IsNot (.var 1) (.con .non)) (.cons (.cmp .Eq (.var 2) (.tup .nil)) (.cons (.and_ (.cons (.not_ (.call 4 (.cons (.var 0) .nil))) (.cons (.not_ (.call 5 (.cons (.var 0) .nil))) .nil))) .nil)))) [some (.str w), some x.D, some (.tup ks), none, none] S = .ok (.bl false) S := by
        rcases hw with h | h
        · rw [h] at p4
          simp [-Out.bind, hn, lim, z, hf, p4]
        · rw [h] at p5
          cases hp : (pureW.any fun t => decide (w = t)) with
          | true =>
            rw [hp] at p4
            simp [-Out.bind, hn, lim, z, hf, p4]
          | false =>
            rw [hp] at p4
            simp [-Out.bind, hn, lim, z, hf, p4, p5]
      rw [guard]
      simp [-Out.bind]
      refine w_if rfl ?_
      by_cases m4 : w = "copy"
      · subst m4
        simp [-Out.bind, eq_ss]
        refine w_if rfl ?_
        cases Kr with
        | nil =>
          have hl1 : (ks.length : Int) = 1 := by simpa using hln
          obtain ⟨_, S1, e1, x1, rfl⟩ := (kind_yes (n + 2) hKo S).ex
          simp [-Out.bind, bi_len, lenD, eq_ii, hl1, hat, hf, e1]
          refine w_ret rfl ?_
          simp [-Out.bind, hat, resR, hn, x1]
        | cons L Lr =>
          have hl1 : ((ks.length : Int) == 1) = false := beq_false_of_ne (by simp at hln; omega)
          simp [-Out.bind, bi_len, lenD, eq_ii, hl1]
          refine w_ret rfl ?_
          simp [-Out.bind, resR, hn]
      simp [-Out.bind, eq_ss, m4]
      refine w_if rfl ?_
      by_cases m5 : w = "pick"
      · subst m5
        simp [-Out.bind, lim, pick2]
        refine w_ret rfl ?_
        obtain ⟨_, S1, e1, x1, rfl⟩ := (pick_f8 (S := S) (n + 1) hKo (r := Kr) (by omega)).ex
        rw [hks] at e1
        simp [-Out.bind, hf, e1, resR, hn, x1]
      by_cases m6 : w = "lay"
      · subst m6
        simp [-Out.bind, lim, pick2]
        refine w_ret rfl ?_
        obtain ⟨_, S1, e1, x1, rfl⟩ := (lay_f8 (S := S) (n + 1) hKo (r := Kr) (by omega)).ex
        rw [hks] at e1
        simp [-Out.bind, hf, e1, resR, hn, x1]
      simp [-Out.bind, lim, pick2, m5, m6]
      have e9 := plain_f9 (n + 3) w S
      have et : eqD S (.tup ks) (.tup ((tabW w).map pD)) = some (ke (K :: Kr) ((tabW w).map plainK)) := by
        rw [← hks, ← plainKs_D]; exact eq_tt _ _
      refine w_setT rfl ?_
      simp [-Out.bind, hf, e9]
      refine w_if rfl ?_
      cases hk : ke (K :: Kr) ((tabW w).map plainK) with
      | true =>
        rw [hk] at et
        simp [-Out.bind, et]
        refine w_ret rfl ?_
        simp [-Out.bind, resR, tableR, m1, m2, m3, m4, m5, m6, hn, hk]
      | false =>
        rw [hk] at et
        simp [-Out.bind, et]
        refine w_ret rfl ?_
        simp [-Out.bind, resR, tableR, m1, m2, m3, m4, m5, m6, hn, hk]
end
end My

namespace My
open PySem L2 Mi
section
variable {Y : Fs} {env : Mi.Env} {S : Sto}
/-- [None, a][int(b)] -/
theorem pickI {va : D} {t : Bool} {a b : E} (ha : ev Y a env S = .ok va S) (hb : ∀ S', Ext S S' → (ev Y b env S').Ok fun v S'' => Ext S' S'' ∧ v = .bl t) : (ev Y (.idx (.lst (.cons (.con .non) (.cons a .nil))) (.bi .int1 (.cons b .nil))) env S).Ok fun v S' => Ext S S' ∧ v = if t = true then va else .non := by
  have hlst : ev Y (.lst (.cons (.con .non) (.cons a .nil))) env S = .ok (.ref S.length) (S ++ [.lst [.non, va]]) := by
    simp [-Out.bind, lim, ha]
  rw [ev_idx, hlst, bind_ok]
  have x0 : Ext S (S ++ [.lst [.non, va]]) := ⟨_, rfl⟩
  have hs0 : (S ++ [MO.lst [.non, va]])[S.length]? = some (.lst [.non, va]) := by simp
  generalize S ++ [MO.lst [.non, va]] = S0 at x0 hs0
  obtain ⟨_, S1, e1, x1, rfl⟩ := (hb S0 x0).ex
  have hs1 := x1.at hs0
  cases t with
  | true => simp [-Out.bind, e1, biD, hs1, at2_1, x0.trans x1]
  | false => simp [-Out.bind, e1, biD, hs1, at2_0, x0.trans x1]
variable {q : Nat} {Ks : List Kd}
theorem eqL1 {j : Nat} {L : Kd} (h2 : env[2]? = some (some (.ref q))) (hj : env[j]? = some (some L.D)) (hq : S[q]? = some (.lst (Ks.map Kd.D))) : ∀ S', Ext S S' → (ev Y (.cmp .Eq (.var 2) (.lst (.cons (.var j) .nil))) env S').Ok fun v S'' => Ext S' S'' ∧ v = .bl (ke Ks [L]) := fun S' x => by
  have e := eq_ll (S := S' ++ [.lst [L.D]]) (a := q) (b := S'.length) (Ls := [L]) ((x.trans (Ext_app _ _)).at hq) (by simp)
  rw [ev_cmp, ev_var h2, bind_ok]
  simp [-Out.bind, lim, ev_var hj, e]
theorem eqL2 {j : Nat} {L : Kd} (h2 : env[2]? = some (some (.ref q))) (hj : env[j]? = some (some L.D)) (hq : S[q]? = some (.lst (Ks.map Kd.D))) : ∀ S', Ext S S' → (ev Y (.cmp .Eq (.var 2) (.lst (.cons (.var j) (.cons (.var j) .nil)))) env S').Ok fun v S'' => Ext S' S'' ∧ v = .bl (ke Ks [L, L]) := fun S' x => by
  have e := eq_ll (S := S' ++ [.lst [L.D, L.D]]) (a := q) (b := S'.length) (Ls := [L, L]) ((x.trans (Ext_app _ _)).at hq) (by simp)
  rw [ev_cmp, ev_var h2, bind_ok]
  simp [-Out.bind, lim, ev_var hj, e]
theorem slc_ref {xs : List D} {lo hi : Option Int} (hq : S[q]? = some (.lst xs)) : slcD (.ref q) lo hi S = .ok (.ref S.length) (S ++ [.lst (cutD xs lo hi)]) := by
  simp [slcD, seqAt, lstAt, hq]
theorem eqS1 {j : Nat} {K L : Kd} {Kr : List Kd} (h2 : env[2]? = some (some (.ref q))) (hj : env[j]? = some (some L.D)) (hq : S[q]? = some (.lst ((K :: Kr).map Kd.D))) : ∀ S', Ext S S' → (ev Y (.cmp .Eq (.slc (.var 2) true false (.con (.int (1))) (.con .non)) (.lst (.cons (.var j) .nil))) env S').Ok fun v S'' => Ext S' S'' ∧ v = .bl (ke Kr [L]) := fun S' x => by
  have hs := slc_ref (lo := some 1) (hi := none) (x.at hq)
  rw [List.map_cons, cut_tail] at hs
  have e := eq_ll (S := S' ++ [.lst (Kr.map Kd.D)] ++ [.lst [L.D]]) (a := S'.length) (b := (S' ++ [MO.lst (Kr.map Kd.D)]).length) (Ks := Kr) (Ls := [L]) (by simp) (by simp)
  simp only [List.append_assoc, List.cons_append, List.nil_append, List.length_append, List.length_cons, List.length_nil] at e
  simp [-Out.bind, lim, ev_var h2, ev_var hj, hs, e]
theorem eqS2 {j : Nat} {K L : Kd} {Kr : List Kd} (h2 : env[2]? = some (some (.ref q))) (hj : env[j]? = some (some L.D)) (hq : S[q]? = some (.lst ((K :: Kr).map Kd.D))) : ∀ S', Ext S S' → (ev Y (.cmp .Eq (.slc (.var 2) true false (.con (.int (1))) (.con .non)) (.lst (.cons (.var j) (.cons (.var j) .nil)))) env S').Ok fun v S'' => Ext S' S'' ∧ v = .bl (ke Kr [L, L]) := fun S' x => by
  have hs := slc_ref (lo := some 1) (hi := none) (x.at hq)
  rw [List.map_cons, cut_tail] at hs
  have e := eq_ll (S := S' ++ [.lst (Kr.map Kd.D)] ++ [.lst [L.D, L.D]]) (a := S'.length) (b := (S' ++ [MO.lst (Kr.map Kd.D)]).length) (Ks := Kr) (Ls := [L, L]) (by simp) (by simp)
  simp only [List.append_assoc, List.cons_append, List.nil_append, List.length_append, List.length_cons, List.length_nil] at e
  simp [-Out.bind, lim, ev_var h2, ev_var hj, hs, e]
end
theorem ls2 {S : Sto} {w : String} : anyEq S (.str w) [.str "less", .str "same"] = some (decide (w = "less") || decide (w = "same")) := by
  have a1 := any3 (S := S) (w := w) ["less", "same"]
  simpa using a1
theorem ao2 {S : Sto} {w : String} : anyEq S (.str w) [.str "and", .str "or"] = some (decide (w = "and") || decide (w = "or")) := by
  have a1 := any3 (S := S) (w := w) ["and", "or"]
  simpa using a1
def sumW : List String := ["add", "sub", "mul", "div", "mod"]
theorem sum5 {S : Sto} {w : String} : anyEq S (.str w) [.str "add", .str "sub", .str "mul", .str "div", .str "mod"] = some (sumW.any fun t => decide (w = t)) := by
  have a1 := any3 (S := S) (w := w) sumW
  simpa [sumW] using a1
section
variable {Y : Fs} {S : Sto} {q : Nat} {Ks : List Kd} {w : String} {e : D}
/-- the end of due: the table -/
def tailR (w : String) (Ks : List Kd) : D := if w = "less" ∨ w = "same" ∨ w = "and" ∨ w = "or" ∨ w = "not" ∨ w = "neg" ∨ (sumW.any fun t => decide (w = t)) = true then tableR w Ks else .non
theorem tail_due (hq : S[q]? = some (.lst (Ks.map Kd.D))) {P : D → Prop} (hP : ∀ v, v = tailR w Ks → P v) {S0 : Sto} (x0 : Ext S0 S) {nx : Mi.Env → Sto → Prop} : (execs Y f23_10 [some (.str w), some e, some (.ref q), some (.tup [.str "num"]), some (.tup [.str "truth"])] S).F ⟨nx, fun v S' => Ext S0 S' ∧ P v, fun _ _ => False, fun _ _ => False⟩ := by
  have n1 : ([some (.str w), some e, some (.ref q), some (.tup [.str "num"]), some (.tup [.str "truth"])] : Mi.Env)[3]? = some (some Kd.num.D) := rfl
  have n2 : ([some (.str w), some e, some (.ref q), some (.tup [.str "num"]), some (.tup [.str "truth"])] : Mi.Env)[4]? = some (some Kd.truth.D) := rfl
  have n3 : ([some (.str w), some e, some (.ref q), some (.tup [.str "num"]), some (.tup [.str "truth"])] : Mi.Env)[2]? = some (some (.ref q)) := rfl
  have hP' : ∀ {v : D} {S'}, (Ext S S' ∧ v = tailR w Ks) → (Ext S0 S' ∧ P v) := fun h => ⟨x0.trans h.1, hP _ h.2⟩
  refine w_if rfl ?_
  by_cases m1 : w = "less" ∨ w = "same"
  · have c1 : (decide (w = "less") || decide (w = "same")) = true := by simpa using m1
    simp [-Out.bind, lim, ls2, c1]
    refine w_ret rfl ?_
    refine Ok_imp (pickI (ev_var n2) (eqL2 n3 n1 hq)) fun v S' h => hP' ⟨h.1, h.2.trans ?_⟩
    rcases m1 with rfl | rfl <;> simp [tailR, tableR, tabW, tabR, plainK, Kd.D] <;> rfl
  have c1 : (decide (w = "less") || decide (w = "same")) = false := by simpa using m1
  simp [-Out.bind, lim, ls2, c1]
  refine w_if rfl ?_
  by_cases m2 : w = "and" ∨ w = "or"
  · have c1 : (decide (w = "and") || decide (w = "or")) = true := by simpa using m2
    simp [-Out.bind, lim, ao2, c1]
    refine w_ret rfl ?_
    refine Ok_imp (pickI (ev_var n2) (eqL2 n3 n2 hq)) fun v S' h => hP' ⟨h.1, h.2.trans ?_⟩
    rcases m2 with rfl | rfl <;> simp [tailR, tableR, tabW, tabR, plainK, Kd.D] <;> rfl
  have c2 : (decide (w = "and") || decide (w = "or")) = false := by simpa using m2
  simp [-Out.bind, lim, ao2, c2]
  refine w_if rfl ?_
  by_cases m3 : w = "not"
  · simp [-Out.bind, eq_ss, m3]
    refine w_ret rfl ?_
    subst m3
    refine Ok_imp (pickI (ev_var n2) (eqL1 n3 n2 hq)) fun v S' h => hP' ⟨h.1, h.2.trans ?_⟩
    simp [tailR, tableR, tabW, tabR, plainK, Kd.D] <;> rfl
  simp [-Out.bind, eq_ss, m3]
  refine w_if rfl ?_
  by_cases m4 : w = "neg"
  · simp [-Out.bind, eq_ss, m4]
    refine w_ret rfl ?_
    subst m4
    refine Ok_imp (pickI (ev_var n1) (eqL1 n3 n1 hq)) fun v S' h => hP' ⟨h.1, h.2.trans ?_⟩
    simp [tailR, tableR, tabW, tabR, plainK, Kd.D] <;> rfl
  simp [-Out.bind, eq_ss, m4]
  refine w_if rfl ?_
  cases m5 : sumW.any fun t => decide (w = t) with
  | true =>
    simp [-Out.bind, lim, sum5, m5]
    refine w_ret rfl ?_
    refine Ok_imp (pickI (ev_var n1) (eqL2 n3 n1 hq)) fun v S' h => hP' ⟨h.1, h.2.trans ?_⟩
    have t1 : tabW w = [false, false] := by unfold tabW; rw [if_neg m2, if_neg m3, if_neg m4]
    have t2 : tabR w = false := by unfold tabR; rw [if_neg m2, if_neg m3, if_neg m4, if_neg m1]
    simp [tailR, tableR, t1, t2, m5, plainK, Kd.D]
  | false =>
    simp [-Out.bind, lim, sum5, m5]
    refine w_ret rfl ?_
    simp [-Out.bind]
    refine hP' ⟨Ext_refl _, ?_⟩
    have : ¬ (w = "less" ∨ w = "same" ∨ w = "and" ∨ w = "or" ∨ w = "not" ∨ w = "neg" ∨ (sumW.any fun t => decide (w = t)) = true) := by
      rw [m5]
      rintro (h | h | h | h | h | h | h)
      · exact m1 (.inl h)
      · exact m1 (.inr h)
      · exact m2 (.inl h)
      · exact m2 (.inr h)
      · exact m3 h
      · exact m4 h
      · cases h
    rw [tailR, if_neg this]
/-- the law's due -/
theorem due_f23 (n : Nat) {r : Nat → Prop} {w : String} (hw : (pureW.any fun t => decide (w = t)) = true ∨ (riskW.any fun t => decide (w = t)) = true) {x : Ex} (hx : x.ok r S) (hK : ∀ K ∈ Ks, K.ok) (hq : S[q]? = some (.lst (Ks.map Kd.D))) : (fnN G (n + 4) 23 [.str w, x.D, .ref q] S).Ok fun v S' => Ext S S' ∧ v = resR w x Ks := by
  generalize hF : fnN G (n + 4) = F
  refine run_okF hF f23 rfl rfl fun Y hf hg => ?_
  simp [f23]
  refine w_set rfl ?_
  simp [-Out.bind, lim]
  refine w_set rfl ?_
  simp [-Out.bind, lim]
  refine w_if rfl ?_
  by_cases m1 : w = "make"
  · subst m1
    simp [-Out.bind, lim, make3]
    refine w_ret rfl ?_
    cases x with
    | kd K =>
      obtain ⟨_, S1, e1, x1, rfl⟩ := (make_f22 n hx hq).ex
      simp [-Out.bind, Ex.D, hf, e1, resR, x1]
    | nt e =>
      obtain ⟨_, S1, e1, x1, rfl⟩ := (make_f22n (n + 1) hx (.ref q)).ex
      simp [-Out.bind, Ex.D, hf, e1, resR, x1]
  by_cases m2 : w = "get"
  · subst m2
    simp [-Out.bind, lim, make3]
    refine w_ret rfl ?_
    obtain ⟨_, S1, e1, x1, rfl⟩ := (get_f22 n hx.ty hK hq).ex
    simp [-Out.bind, hf, e1, resR, x1]
  by_cases m3 : w = "put"
  · subst m3
    simp [-Out.bind, lim, make3]
    refine w_ret rfl ?_
    obtain ⟨_, S1, e1, x1, rfl⟩ := (put_f22 n hx.ty hK hq).ex
    simp [-Out.bind, hf, e1, resR, x1]
  simp [-Out.bind, lim, make3, m1, m2, m3]
  refine w_if rfl ?_
  cases hn : x.D.isNon with
  | false =>
    simp [-Out.bind, hn]
    refine w_ret rfl ?_
    simp [resR, m1, m2, m3, hn]
  | true =>
    simp [-Out.bind, hn]
    refine w_if rfl ?_
    by_cases m4 : w = "copy"
    · subst m4
      match Ks, hq with
      | [K], hq =>
        simp [-Out.bind, eq_ss, bi_len, hq, eq_ii]
        refine w_ret rfl ?_
        simp [-Out.bind, hq, at1_0, resR, hn]
      | [], hq =>
        simp [-Out.bind, eq_ss, bi_len, hq, eq_ii]
        refine w_if rfl ?_
        simp [-Out.bind, lim, pick2]
        refine tail_due hq ?_ (Ext_refl _)
        rintro v rfl
        simp [tailR, resR, hn, sumW]
      | K :: L :: r, hq =>
        have hl1 : (((r.length : Int) + 1 + 1) == 1) = false := beq_false_of_ne (by omega)
        simp [-Out.bind, eq_ss, bi_len, hq, eq_ii, hl1]
        refine w_if rfl ?_
        simp [-Out.bind, lim, pick2]
        refine tail_due hq ?_ (Ext_refl _)
        rintro v rfl
        simp [tailR, resR, hn, sumW]
    simp [-Out.bind, eq_ss, m4]
    refine w_if rfl ?_
    by_cases m5 : w = "pick" ∨ w = "lay"
    · have c1 : (decide (w = "pick") || decide (w = "lay")) = true := by simpa using m5
      match Ks, hq with
      | [], hq =>
        have hs := slc_ref (lo := none) (hi := some 1) hq
        have en := eq_ll (S := S ++ [.lst []] ++ [.lst []]) (a := S.length) (b := (S ++ [MO.lst []]).length) (Ks := []) (Ls := []) (by simp) (by simp)
        rw [ke_nil] at en
        simp only [List.append_assoc, List.cons_append, List.nil_append, List.length_append, List.length_cons, List.length_nil] at en
        have hc : cutD [] none (some 1) = [] := by simp [cutD]
        simp only [List.map_nil, hc] at hs
        simp [-Out.bind, lim, pick2, c1, hs, en]
        refine tail_due ((Ext_app S _).at hq) ?_ (Ext_app _ _)
        rintro v rfl
        rcases m5 with rfl | rfl <;> simp [tailR, resR, hn, sumW, pickR, layR]
      | K :: Kr, hq =>
        have hs := slc_ref (lo := none) (hi := some 1) hq
        rw [List.map_cons, cut_head] at hs
        have en := eq_ll (S := S ++ [.lst [K.D]] ++ [.lst []]) (a := S.length) (b := (S ++ [MO.lst [K.D]]).length) (Ks := [K]) (Ls := []) (by simp) (by simp)
        rw [ke_nil] at en
        simp only [List.append_assoc, List.cons_append, List.nil_append, List.length_append, List.length_cons, List.length_nil] at en
        have x1 : Ext S (S ++ [.lst [K.D], .lst []]) := Ext_app _ _
        have hq1 := x1.at hq
        have wr := word_row K
        generalize hS1 : S ++ [MO.lst [K.D], MO.lst []] = S1 at en x1 hq1
        have guard : ev Y (.and_ (.cons (.cmp .In (.var 0) (.tup (.cons (.con (.str "pick")) (.cons (.con (.str "lay")) .nil)))) (.cons (.cmp .NotEq (.slc (.var 2) false true (.con .non) (.con (.int (1)))) (.lst .nil)) (.cons (.cmp .Eq (.idx (.idx (.var 2) (.con (.int (0)))) (.con (.int (0)))) (.con (.str "row"))) .nil)))) [some (.str w), some x.D, some (.ref q), some (.tup [.str "num"]), some (.tup [.str "truth"])] S = .ok (.bl (isRow K)) S1 := by
          have a0 : atI (K.D :: Kr.map Kd.D) 0 = some K.D := by simp [atI, ixN]
          have hq1' : S1[q]? = some (MO.lst (K.D :: Kr.map Kd.D)) := hq1
          simp [-Out.bind, lim, pick2, c1, hs, hS1, en, hq1', a0, idx_word, eq_ss]
          exact wr
        rw [guard]
        have n1 : ([some (.str w), some x.D, some (.ref q), some (.tup [.str "num"]), some (.tup [.str "truth"])] : Mi.Env)[3]? = some (some Kd.num.D) := rfl
        have n3 : ([some (.str w), some x.D, some (.ref q), some (.tup [.str "num"]), some (.tup [.str "truth"])] : Mi.Env)[2]? = some (some (.ref q)) := rfl
        cases hr : isRow K with
        | false =>
          simp [-Out.bind]
          refine tail_due hq1 ?_ x1
          rintro v rfl
          rcases m5 with rfl | rfl <;> simp [tailR, resR, hn, sumW, pickR, layR, hr]
        | true =>
          simp [-Out.bind]
          refine w_if rfl ?_
          rcases m5 with rfl | rfl
          · simp [-Out.bind, eq_ss]
            refine w_ret rfl ?_
            refine Ok_imp (pickI (ev_var n1) (eqS1 n3 n1 hq1)) fun v S' h => ⟨x1.trans h.1, h.2.trans ?_⟩
            simp [resR, hn, pickR, hr, Kd.D]
          · simp [-Out.bind, eq_ss]
            refine w_ret rfl ?_
            have ei : ev Y (.idx (.var 2) (.con (.int (0)))) [some (.str "lay"), some x.D, some (.ref q), some (.tup [.str "num"]), some (.tup [.str "truth"])] S1 = .ok K.D S1 := by
              have hq1' : S1[q]? = some (MO.lst (K.D :: Kr.map Kd.D)) := hq1
              simp [-Out.bind, hq1', atI, ixN]
            refine Ok_imp (pickI ei (eqS2 n3 n1 hq1)) fun v S' h => ⟨x1.trans h.1, h.2.trans ?_⟩
            simp [resR, hn, layR, hr, Kd.D]
    · have c1 : (decide (w = "pick") || decide (w = "lay")) = false := by simpa using m5
      simp [-Out.bind, lim, pick2, c1]
      refine tail_due hq ?_ (Ext_refl _)
      rintro v rfl
      have m6 : ¬ w = "pick" := fun h => m5 (.inl h)
      have m7 : ¬ w = "lay" := fun h => m5 (.inr h)
      have : w = "less" ∨ w = "same" ∨ w = "and" ∨ w = "or" ∨ w = "not" ∨ w = "neg" ∨ (sumW.any fun t => decide (w = t)) = true := by
        simp only [pureW, riskW, List.any_cons, List.any_nil, Bool.or_false, Bool.or_eq_true, decide_eq_true_eq] at hw
        simp only [sumW, List.any_cons, List.any_nil, Bool.or_false, Bool.or_eq_true, decide_eq_true_eq]
        rcases hw with (h | h | h | h | h | h | h | h | h | h | h | h) | (h | h | h | h | h) <;> simp [h] <;> first | exact absurd h m1 | exact absurd h m2 | exact absurd h m3 | exact absurd h m4 | exact absurd h m6 | exact absurd h m7
      rw [tailR, if_pos this]
      simp [resR, m1, m2, m3, m4, m6, m7, hn]
end
end My

namespace My
open PySem L2 Mi
def opW : List String := pureW ++ riskW
/-- no word of an operation -/
def Odd (r : Nat → Prop) (S : Sto) (o : D) : Prop := (Da r 12 S o ∨ Di r S o) ∧ ∀ t ∈ opW, strIs t o = false
theorem Odd.fr {r : Nat → Prop} {S S' : Sto} {o : D} (h : Odd r S o) (f : FrR r S S') : Odd r S' o := by
  refine ⟨?_, h.2⟩
  rcases h.1 with h | h
  · exact .inl (h.fr f)
  · exact .inr (h.fr f)
section
variable {r : Nat → Prop} {S : Sto} {o : D}
theorem Odd.any (h : Odd r S o) (ws : List String) (hs : ∀ t ∈ ws, t ∈ opW) : anyEq S o (ws.map fun (w : String) => D.str w) = some false := by
  rw [any_ws ws h.1]
  congr 1
  rw [List.any_eq_false]
  intro t ht
  rw [h.2 t (hs t ht)]
  exact Bool.false_ne_true
theorem Odd.eq (h : Odd r S o) {t : String} (ht : t ∈ opW) : eqD S o (.str t) = some false := by
  rw [eq_w h.1, h.2 t ht]
theorem pure_odd (n : Nat) (h : Odd r S o) : fnN G (n + 1) 4 [o] S = .ok (.bl false) S := by
  have q : (fnN G (n + 1) 4 [o] S).Ok fun v S' => S' = S ∧ v = .bl false := by
    refine run_ok f4 rfl rfl fun Y hf hg => ?_
    have g4 : Y.gv 4 = .tup (pureW.map fun (w : String) => D.str w) := by rw [hg]; rfl
    simp [f4]
    refine w_ret rfl ?_
    rw [ev_cmp, ev_var (d := o) rfl, bind_ok, ev_glob, bind_ok, g4, cmpD_in, inD_tup, h.any pureW (by decide)]
    exact .mk ⟨rfl, rfl⟩
  obtain ⟨v, S', e, rfl, rfl⟩ := q.ex
  exact e
theorem risk_odd (n : Nat) (h : Odd r S o) : fnN G (n + 1) 5 [o] S = .ok (.bl false) S := by
  have q : (fnN G (n + 1) 5 [o] S).Ok fun v S' => S' = S ∧ v = .bl false := by
    refine run_ok f5 rfl rfl fun Y hf hg => ?_
    have g4 : Y.gv 5 = .tup (riskW.map fun (w : String) => D.str w) := by rw [hg]; rfl
    simp [f5]
    refine w_ret rfl ?_
    rw [ev_cmp, ev_var (d := o) rfl, bind_ok, ev_glob, bind_ok, g4, cmpD_in, inD_tup, h.any riskW (by decide)]
    exact .mk ⟨rfl, rfl⟩
  obtain ⟨v, S', e, rfl, rfl⟩ := q.ex
  exact e
theorem odd_make3 (h : Odd r S o) : anyEq S o [.str "make", .str "get", .str "put"] = some false := h.any ["make", "get", "put"] (by decide)
theorem odd_pick2 (h : Odd r S o) : anyEq S o [.str "pick", .str "lay"] = some false := h.any ["pick", "lay"] (by decide)
theorem odd_ls2 (h : Odd r S o) : anyEq S o [.str "less", .str "same"] = some false := h.any ["less", "same"] (by decide)
theorem odd_ao2 (h : Odd r S o) : anyEq S o [.str "and", .str "or"] = some false := h.any ["and", "or"] (by decide)
theorem odd_sum (h : Odd r S o) : anyEq S o [.str "add", .str "sub", .str "mul", .str "div", .str "mod"] = some false := h.any sumW (by decide)
theorem res_odd (n : Nat) (h : Odd r S o) {x : Ex} (hx : x.ok r S) {Ks : List Kd} {kd : D} (hkd : biD .tup1 [kd] S = .ok (.tup (Ks.map Kd.D)) S) : (fnN G (n + 2) 10 [o, x.D, kd] S).Ok fun v S' => Ext S S' ∧ v = .non := by
  generalize hF : fnN G (n + 2) = F
  refine run_okF hF f10 rfl rfl fun Y hf hg => ?_
  simp [f10]
  refine w_set rfl ?_
  simp [-Out.bind, hkd]
  refine w_if rfl ?_
  simp [-Out.bind, lim, odd_make3 h]
  refine w_if rfl ?_
  have z : eqD S (.tup (Ks.map Kd.D)) (.tup []) = some Ks.isEmpty := eqt_nil
  have p4 := pure_odd n h
  have p5 := risk_odd n h
  cases hn : x.D.isNon with
  | false =>
    simp [-Out.bind, hn]
    refine w_ret rfl ?_
    simp
  | true =>
    cases hk : Ks.isEmpty with
    | true =>
      rw [hk] at z
      simp [-Out.bind, hn, lim, z]
      refine w_ret rfl ?_
      simp
    | false =>
      rw [hk] at z
      simp [-Out.bind, hn, lim, z, hf, p4, p5]
      refine w_ret rfl ?_
      simp
theorem due_odd (n : Nat) (h : Odd r S o) {x : Ex} {ks : D} : (fnN G (n + 1) 23 [o, x.D, ks] S).Ok fun v S' => Ext S S' ∧ v = .non := by
  generalize hF : fnN G (n + 1) = F
  refine run_okF hF f23 rfl rfl fun Y hf hg => ?_
  have q := fun t (ht : t ∈ opW) => h.eq ht
  have q1 := q "copy" (by decide)
  have q2 := q "not" (by decide)
  have q3 := q "neg" (by decide)
  simp [f23]
  refine w_set rfl ?_
  simp [-Out.bind, lim]
  refine w_set rfl ?_
  simp [-Out.bind, lim]
  refine w_if rfl ?_
  simp [-Out.bind, lim, odd_make3 h]
  refine w_if rfl ?_
  cases hn : x.D.isNon with
  | false =>
    simp [-Out.bind, hn]
    refine w_ret rfl ?_
    simp
  | true =>
    simp [-Out.bind, hn]
    refine w_if rfl ?_
    simp [-Out.bind, q1]
    refine w_if rfl ?_
    simp [-Out.bind, lim, odd_pick2 h]
    refine w_if rfl ?_
    simp [-Out.bind, lim, odd_ls2 h]
    refine w_if rfl ?_
    simp [-Out.bind, lim, odd_ao2 h]
    refine w_if rfl ?_
    simp [-Out.bind, q2]
    refine w_if rfl ?_
    simp [-Out.bind, q3]
    refine w_if rfl ?_
    simp [-Out.bind, lim, odd_sum h]
    refine w_ret rfl ?_
    simp
end
/-- a row or a record is drawn -/
theorem plain_bx (n : Nat) {r : Nat} {S : Sto} (h : Bx r S) : (fnN G (n + 3) 14 [.ref r] S).Ok fun v S' => Gb r S S' ∧ ∃ b, v = pD b := plain_ok n h
theorem whole_f17 (n : Nat) {r : Nat} {S : Sto} (h : Bx r S) : (fnN G (n + 5) 17 [.ref r] S).Ok fun v S' => Gb r S S' ∧ ∃ K : Kd, K.ok ∧ K.parts.isEmpty = false ∧ v = K.D := by
  generalize hF : fnN G (n + 5) = F
  refine run_okF hF f17 rfl rfl fun Y hf hg => ?_
  simp [f17]
  refine w_set rfl ?_
  obtain ⟨_, S1, e1, g1, K, hK, rfl⟩ := (kind_ok n h).ex
  simp [-Out.bind, hf, e1]
  refine w_whl rfl ?_
  let Inv : Nat → Mi.Env → Sto → Prop := fun m env S' => Gb r S S' ∧ ∃ K : Kd, K.ok ∧ env = [some (.ref r), some K.D] ∧ (K.parts.isEmpty = true → m = 1)
  refine whlN_inv Inv ?_ (lim + 2) 1 _ S1 ⟨g1, K, hK, rfl, fun _ => rfl⟩ (by simp [lim])
  rintro m env S2 ⟨g2, K2, hK2, rfl, hm⟩
  obtain ⟨_, S3, e3, q3, rfl, hq3, x3⟩ := (parts_ok (n + 3) hK2 S2).ex
  have en : eqD (S3 ++ [.lst []]) (.ref q3) (.ref S3.length) = some K2.parts.isEmpty := eqn_nil ((Ext_app S3 _).at hq3) (by simp)
  have g3 : Gb r S (S3 ++ [.lst []]) := (g2.ext x3).ext (Ext_app _ _)
  cases hp : K2.parts.isEmpty with
  | false =>
    rw [hp] at en
    simp [-Out.bind, hf, e3, lim, en]
    refine w_ret rfl ?_
    simp [-Out.bind]
    exact ⟨g3, K2, hK2, (fun h => by rw [h] at hp; simp at hp), rfl⟩
  | true =>
    rw [hp] at en
    simp [-Out.bind, hf, e3, lim, en]
    have hm1 := hm hp
    subst hm1
    refine w_set rfl ?_
    obtain ⟨_, S4, e4, g4, x, hx0, hx1, rfl⟩ := (take_ok (n + 2) (m := 6) g3.1 (by decide) (by decide)).ex
    obtain ⟨_, S5, e5, g5, b1, rfl⟩ := (plain_ok (n + 1) g4.1).ex
    obtain ⟨_, S6, e6, g6, b2, rfl⟩ := (plain_ok (n + 1) g5.1).ex
    let L1 : Kd := .row (1 + x).toNat
    let L2 : Kd := .rcd [b1, b2]
    have d1 : L1.D = .tup [.str "row", .int (1 + x)] := by
      show D.tup [.str "row", .int ((1 + x).toNat : Int)] = _
      rw [Int.toNat_of_nonneg (by omega)]
    have o1 : L1.ok := ⟨by omega, by omega⟩
    have o2 : L2.ok := ⟨by simp, by simp⟩
    have hb7 : Bx r (S6 ++ [.lst [L1.D, L2.D]]) := g6.1.app _
    obtain ⟨_, S7, e7, g7, y, hy0, hy1, rfl⟩ := (take_ok (n + 2) (m := 2) hb7 (by decide) (by decide)).ex
    have hq7 : S7[S6.length]? = some (.lst [L1.D, L2.D]) := g7.2 _ _ (Nat.ne_of_gt g6.1.lt) (by simp)
    have e7' : fnN G (n + 4) 13 [.ref r, .int 2] (S6 ++ [.lst [.tup [.str "row", .int (1 + x)], .tup [.str "record", .tup [pD b1, pD b2]]]]) = .ok (.int y) S7 := by
      rw [← d1]; exact e7
    simp [-Out.bind, hf, e4, e5, e6, e7', lim, hq7]
    have gg : Gb r S S7 := (((g3.trans g4).trans g5).trans g6).trans ((Gb.of g6.1 (Ext_app _ _)).trans g7)
    have hy : y = 0 ∨ y = 1 := by omega
    rcases hy with rfl | rfl
    · simp [-Out.bind, at2_0]
      refine ⟨gg, L1, o1, rfl, fun h => ?_⟩
      have : L1.parts = List.replicate (1 + x).toNat false := rfl
      rw [this] at h
      obtain ⟨k, hk⟩ : ∃ k, (1 + x).toNat = k + 1 := ⟨x.toNat, by omega⟩
      rw [hk] at h
      cases h
    · simp [-Out.bind, at2_1]
      exact ⟨gg, L2, o2, rfl, fun h => by cases h⟩
end My

namespace My
open PySem L2 Mi
/-- dict of good things, first -/
def e18a : E := (.dsp (.cons (.con (.str "neg")) (.cons (.lst (.cons (.var 2) .nil)) (.cons (.con (.str "and")) (.cons (.lst (.cons (.var 3) (.cons (.var 3) .nil))) (.cons (.con (.str "or")) (.cons (.lst (.cons (.var 3) (.cons (.var 3) .nil))) (.cons (.con (.str "not")) (.cons (.lst (.cons (.var 3) .nil)) (.cons (.con (.str "copy")) (.cons (.lst (.cons (.call 15 (.cons (.var 0) .nil)) .nil)) .nil)))))))))))
def e18b : E := (.bm .update (.var 5) (.cons (.dsp (.cons (.con (.str "pick")) (.cons (.lst (.cons (.var 4) (.cons (.var 2) .nil))) (.cons (.con (.str "lay")) (.cons (.lst (.cons (.var 4) (.cons (.var 2) (.cons (.var 2) .nil)))) .nil))))) .nil))
def ky (w : String) : Key := .inr (Str.ofString w)
def kvA (a1 a2 a3 a4 a5 : Nat) : List (Key × D) := [(ky "neg", .ref a1), (ky "and", .ref a2), (ky "or", .ref a3), (ky "not", .ref a4), (ky "copy", .ref a5)]
def kvB (a6 a7 : Nat) : List (Key × D) := [(ky "pick", .ref a6), (ky "lay", .ref a7)]
theorem mergeA {a1 a2 a3 a4 a5 : Nat} : mergeD [] (kvA a1 a2 a3 a4 a5) = kvA a1 a2 a3 a4 a5 := by
  simp [mergeD, kvA, putKD, ky]
theorem mergeB {a6 a7 : Nat} : mergeD [] (kvB a6 a7) = kvB a6 a7 := by
  simp [mergeD, kvB, putKD, ky]
theorem mergeC {a1 a2 a3 a4 a5 a6 a7 : Nat} : mergeD (kvA a1 a2 a3 a4 a5) (kvB a6 a7) = kvA a1 a2 a3 a4 a5 ++ kvB a6 a7 := by
  simp [mergeD, kvA, kvB, putKD, ky]
@[simp] theorem lenA {a1 a2 a3 a4 a5 : Nat} : (kvA a1 a2 a3 a4 a5).length = 5 := rfl
@[simp] theorem lenB {a6 a7 : Nat} : (kvB a6 a7).length = 2 := rfl
structure LstAt (r : Nat) (S : Sto) (q : Nat) (Ks : List Kd) : Prop where
  ne : q ≠ r
  at_ : S[q]? = some (.lst (Ks.map Kd.D))
theorem LstAt.fr {r : Nat} {S S' : Sto} {q : Nat} {Ks : List Kd} (h : LstAt r S q Ks) (g : Gb r S S') : LstAt r S' q Ks := ⟨h.ne, g.2 _ _ h.ne h.at_⟩
theorem LstAt.ext {r : Nat} {S S' : Sto} {q : Nat} {Ks : List Kd} (h : LstAt r S q Ks) (g : Ext S S') : LstAt r S' q Ks := ⟨h.ne, g.at h.at_⟩
section
variable {Y : Fs} {S : Sto} {r : Nat} {env : Mi.Env} {n : Nat}
theorem dict_a (hf : Y.f = fnN G (n + 4)) (h : Bx r S) (h0 : env[0]? = some (some (.ref r))) (h2 : env[2]? = some (some Kd.num.D)) (h3 : env[3]? = some (some Kd.truth.D)) :
    (ev Y e18a env S).Ok fun v S' => Gb r S S' ∧ ∃ d a1 a2 a3 a4 a5, ∃ K : Kd, v = .ref d ∧ d ≠ r ∧ S.length ≤ d ∧ S'[d]? = some (.dK (kvA a1 a2 a3 a4 a5)) ∧ K.ok ∧ LstAt r S' a1 [.num] ∧ LstAt r S' a2 [.truth, .truth] ∧ LstAt r S' a3 [.truth, .truth] ∧ LstAt r S' a4 [.truth] ∧ LstAt r S' a5 [K] := by
  let T : Sto := [.lst [Kd.num.D], .lst [Kd.truth.D, Kd.truth.D], .lst [Kd.truth.D, Kd.truth.D], .lst [Kd.truth.D]]
  obtain ⟨_, S2, e2, g2, K, hK, rfl⟩ := (kind_ok n (h.app T)).ex
  have e2' : fnN G (n + 4) 15 [.ref r] (S ++ [.lst [Kd.num.D], .lst [Kd.truth.D, Kd.truth.D], .lst [Kd.truth.D, Kd.truth.D], .lst [Kd.truth.D]]) = .ok K.D S2 := e2
  have hl : ∀ k o, T[k]? = some o → S2[S.length + k]? = some o := fun k o e => g2.2 _ _ (by have := h.lt; omega) (by
    rw [List.getElem?_append_right (by omega)]
    simpa using e)
  have hlen : S.length + 3 < S2.length := (List.getElem?_eq_some_iff.mp (hl 3 _ rfl)).1
  have m := mergeA (a1 := S.length) (a2 := S.length + 1) (a3 := S.length + 2) (a4 := S.length + 3) (a5 := S2.length)
  have hr := h.lt
  have p : pairsD [.str "neg", .ref S.length, .str "and", .ref (S.length + 1), .str "or", .ref (S.length + 2), .str "not", .ref (S.length + 3), .str "copy", .ref S2.length] = some (kvA S.length (S.length + 1) (S.length + 2) (S.length + 3) S2.length) := rfl
  have e : ev Y e18a env S = .ok (.ref (S2.length + 1)) (S2 ++ [.lst [K.D], .dK (kvA S.length (S.length + 1) (S.length + 2) (S.length + 3) S2.length)]) := by
    unfold e18a
    simp [-Out.bind, ev_var h0, ev_var h2, ev_var h3, lim, hf, e2', p, m]
  rw [e]
  have x3 : Ext S2 (S2 ++ [.lst [K.D], .dK (kvA S.length (S.length + 1) (S.length + 2) (S.length + 3) S2.length)]) := Ext_app _ _
  refine .mk ⟨((Gb.of h (Ext_app _ _)).trans g2).ext x3, S2.length + 1, S.length, S.length + 1, S.length + 2, S.length + 3, S2.length, K, rfl, by omega, by omega, by simp, hK, ?_, ?_, ?_, ?_, ?_⟩
  · exact ⟨by omega, x3.at (hl 0 _ rfl)⟩
  · exact ⟨by omega, x3.at (hl 1 _ rfl)⟩
  · exact ⟨by omega, x3.at (hl 2 _ rfl)⟩
  · exact ⟨by omega, x3.at (hl 3 _ rfl)⟩
  · exact ⟨by omega, by simp⟩
theorem dict_b {d a1 a2 a3 a4 a5 : Nat} {m : Nat} (hd : S[d]? = some (.dK (kvA a1 a2 a3 a4 a5))) (h5 : env[5]? = some (some (.ref d))) (h2 : env[2]? = some (some Kd.num.D)) (h4 : env[4]? = some (some (Kd.row m).D)) :
    ∃ S', ev Y e18b env S = .ok .non S' ∧ (∀ k o, k ≠ d → S[k]? = some o → S'[k]? = some o) ∧ S'[d]? = some (.dK (kvA a1 a2 a3 a4 a5 ++ kvB S.length (S.length + 1))) ∧ S'[S.length]? = some (.lst [(Kd.row m).D, Kd.num.D]) ∧ S'[S.length + 1]? = some (.lst [(Kd.row m).D, Kd.num.D, Kd.num.D]) := by
  have hlt : d < S.length := (List.getElem?_eq_some_iff.mp hd).1
  let T : Sto := [.lst [(Kd.row m).D, Kd.num.D], .lst [(Kd.row m).D, Kd.num.D, Kd.num.D], .dK (kvB S.length (S.length + 1))]
  have p : pairsD [.str "pick", .ref S.length, .str "lay", .ref (S.length + 1)] = some (kvB S.length (S.length + 1)) := rfl
  have u : bmD .update (.ref d) [.ref (S.length + 2)] (S ++ T) = .ok .non ((S ++ T).set d (.dK (kvA a1 a2 a3 a4 a5 ++ kvB S.length (S.length + 1)))) := by
    rw [bm_update (kvs := kvA a1 a2 a3 a4 a5) (more := kvB S.length (S.length + 1)) ((Ext_app S T).at hd) (by simp [T]) (by omega) (by simp [kvA, kvB, lim]), mergeC]
  have hT : ∀ k o, T[k]? = some o → ((S ++ T).set d (MO.dK (kvA a1 a2 a3 a4 a5 ++ kvB S.length (S.length + 1))))[S.length + k]? = some o := fun k o e => by
    rw [List.getElem?_set_ne (by omega), List.getElem?_append_right (by omega)]
    simpa using e
  refine ⟨(S ++ T).set d (.dK (kvA a1 a2 a3 a4 a5 ++ kvB S.length (S.length + 1))), ?_, ?_, ?_, hT 0 _ rfl, hT 1 _ rfl⟩
  · have u' : bmD .update (.ref d) [.ref (S.length + 2)] (S ++ [.lst [(Kd.row m).D, Kd.num.D], .lst [(Kd.row m).D, Kd.num.D, Kd.num.D], .dK (kvB S.length (S.length + 1))]) = .ok .non ((S ++ T).set d (.dK (kvA a1 a2 a3 a4 a5 ++ kvB S.length (S.length + 1)))) := u
    unfold e18b
    simp [-Out.bind, ev_var h5, ev_var h2, ev_var h4, lim, p, hd, mergeB]
    exact u'
  · intro k o hk e
    rw [List.getElem?_set_ne (Ne.symm hk)]
    exact (Ext_app S T).at e
  · rw [List.getElem?_set_self (by rw [List.length_append]; omega)]
end
end My

namespace My
open PySem L2 Mi
/-- an operation, an extra, kinds -/
def Gd (r : Nat) (S : Sto) (w : String) (v : D) : Prop := ∃ l q, ∃ x : Ex, ∃ Ks : List Kd, v = .ref l ∧ S[l]? = some (.lst [.str w, x.D, .ref q]) ∧ LstAt r S q Ks ∧ x.ok (· = r) S ∧ (∀ K ∈ Ks, K.ok) ∧ Ks.length ≤ 6 ∧ 1 ≤ Ks.length ∧ (resR w x Ks).isNon = false
theorem nt_non {r : Nat → Prop} {S : Sto} : NT r S .non := ⟨.inl .non, rfl⟩
theorem nt_int {r : Nat → Prop} {S : Sto} (i : Int) : NT r S (.int i) := ⟨.inl (.int i), rfl⟩
theorem kdNon (K : Kd) : K.D.isNon = false := by cases K <;> rfl
theorem pdNon (b : Bool) : (pD b).isNon = false := by cases b <;> rfl
theorem any_d {S : Sto} {d : Nat} {kvs : List (Key × D)} {w : String} (h : S[d]? = some (.dK kvs)) : inD S (.str w) (.ref d) = some (kvs.any fun kv => decide (kv.1 = ky w)) := by
  rw [inD_ref, h]; rfl
theorem get_d {S : Sto} {d : Nat} {kvs : List (Key × D)} {w : String} {x : D} (h : S[d]? = some (.dK kvs)) (g : getK kvs (ky w) = some x) : idxD (.ref d) (.str w) S = .ok x S := by
  have g' : getK kvs (.inr (Str.ofString w)) = some x := g
  simp [h, D.key, g']
/-- a good one without an extra -/
theorem gd_ret {r : Nat} {S S1 : Sto} {w : String} {q : Nat} {Ks : List Kd} {x : Ex} (g : Gb r S S1) (hx : x.ok (· = r) (S1 ++ [.lst [.str w, x.D, .ref q]])) (hq : LstAt r S1 q Ks) (ho : ∀ K ∈ Ks, K.ok) (hl : Ks.length ≤ 6) (hl1 : 1 ≤ Ks.length) (hr : (resR w x Ks).isNon = false) : Gb r S (S1 ++ [.lst [.str w, x.D, .ref q]]) ∧ Gd r (S1 ++ [.lst [.str w, x.D, .ref q]]) w (.ref S1.length) :=
  ⟨g.ext (Ext_app _ _), S1.length, q, x, Ks, rfl, by simp, hq.ext (Ext_app _ _), hx, ho, hl, hl1, hr⟩
theorem good_f18 (n : Nat) {r : Nat} {S : Sto} {w : String} (hw : w ∈ opW) (h : Bx r S) : (fnN G (n + 6) 18 [.ref r, .str w] S).Ok fun v S' => Gb r S S' ∧ Gd r S' w v := by
  generalize hF : fnN G (n + 6) = F
  refine run_okF hF f18 rfl rfl fun Y hf hg => ?_
  simp [f18]
  refine w_set rfl ?_
  simp [-Out.bind, lim]
  refine w_set rfl ?_
  simp [-Out.bind, lim]
  refine w_set rfl ?_
  obtain ⟨_, S1, e1, g1, m, hm0, hm1, rfl⟩ := (take_ok (n + 3) (m := 6) h (by decide) (by decide)).ex
  simp [-Out.bind, hf, e1, lim]
  have hrow : ∃ k : Nat, 1 ≤ k ∧ k ≤ 6 ∧ (1 + m) = (k : Int) := ⟨(1 + m).toNat, by omega, by omega, by omega⟩
  obtain ⟨k, hk1, hk2, hk⟩ := hrow
  rw [hk]
  refine w_set (e := e18a) rfl ?_
  refine Ok_imp (dict_a (n := n + 1) hf g1.1 rfl rfl rfl) ?_
  rintro _ S2 ⟨g2, d, a1, a2, a3, a4, a5, K, rfl, hdr, hdl, hd, hK, l1, l2, l3, l4, l5⟩
  simp [-Out.bind]
  refine w_ex (e := e18b) rfl ?_
  obtain ⟨S3, e3, f3', hd3, hp3, hl3⟩ := dict_b (Y := Y) (env := [some (.ref r), some (.str w), some (.tup [.str "num"]), some (.tup [.str "truth"]), some (.tup [.str "row", .int k]), some (.ref d), none, none, none]) (m := k) hd rfl rfl rfl
  rw [e3]
  refine .mk ?_
  have hr2 : r < S2.length := g2.1.lt
  obtain ⟨c', l', n', hb'⟩ := g2.1
  have b3 : Bx r S3 := ⟨c', l', n', f3' _ _ (Ne.symm hdr) hb'⟩
  have g13 : Gb r S1 S3 := ⟨b3, fun k o hk e => f3' _ _ (by have := (List.getElem?_eq_some_iff.mp e).1; omega) (g2.2 k o hk e)⟩
  have g3 : Gb r S S3 := g1.trans g13
  have lf : ∀ q Ks, q ≠ d → LstAt r S2 q Ks → LstAt r S3 q Ks := fun q Ks hq h => ⟨h.ne, f3' _ _ hq h.at_⟩
  have nd : ∀ q Ks, LstAt r S2 q Ks → q ≠ d := fun q Ks h z => by
    have e := h.at_
    rw [z, hd] at e
    cases e
  have l1' := lf _ _ (nd _ _ l1) l1
  have l2' := lf _ _ (nd _ _ l2) l2
  have l3' := lf _ _ (nd _ _ l3) l3
  have l4' := lf _ _ (nd _ _ l4) l4
  have l5' := lf _ _ (nd _ _ l5) l5
  have l6' : LstAt r S3 S2.length [.row k, .num] := ⟨by omega, hp3⟩
  have l7' : LstAt r S3 (S2.length + 1) [.row k, .num, .num] := ⟨by omega, hl3⟩
  have ad := any_d (w := w) hd3
  have gd := fun x => get_d (w := w) (x := x) hd3
  have r1 : (Kd.row k).ok := ⟨hk1, hk2⟩
  refine w_if rfl ?_
  -- words in the dict
  have dictcase : ∀ q Ks, getK (kvA a1 a2 a3 a4 a5 ++ kvB S2.length (S2.length + 1)) (ky w) = some (.ref q) → LstAt r S3 q Ks → (∀ K ∈ Ks, K.ok) → Ks.length ≤ 6 → 1 ≤ Ks.length → (resR w (.nt .non) Ks).isNon = false → ((kvA a1 a2 a3 a4 a5 ++ kvB S2.length (S2.length + 1)).any fun kv => decide (kv.1 = ky w)) = true →
      (ev Y (.cmp .In (.var 1) (.var 5)) [some (.ref r), some (.str w), some (.tup [.str "num"]), some (.tup [.str "truth"]), some (.tup [.str "row", .int k]), some (.ref d), none, none, none] S3).Ok fun x S1 => match truthD S1 x with
        | some true => (execs Y f18_10 [some (.ref r), some (.str w), some (.tup [.str "num"]), some (.tup [.str "truth"]), some (.tup [.str "row", .int k]), some (.ref d), none, none, none] S1).F ⟨fun e s => (execs Y f18_9 e s).F ⟨fun _ S_1 => Gb r S S_1 ∧ Gd r S_1 w .non, fun v S' => Gb r S S' ∧ Gd r S' w v, fun _ _ => False, fun _ _ => False⟩, fun v S' => Gb r S S' ∧ Gd r S' w v, fun _ _ => False, fun _ _ => False⟩
        | some false => (execs Y Cs.nil [some (.ref r), some (.str w), some (.tup [.str "num"]), some (.tup [.str "truth"]), some (.tup [.str "row", .int k]), some (.ref d), none, none, none] S1).F ⟨fun e s => (execs Y f18_9 e s).F ⟨fun _ S_1 => Gb r S S_1 ∧ Gd r S_1 w .non, fun v S' => Gb r S S' ∧ Gd r S' w v, fun _ _ => False, fun _ _ => False⟩, fun v S' => Gb r S S' ∧ Gd r S' w v, fun _ _ => False, fun _ _ => False⟩
        | none => False := by
    intro q Ks hgk hq ho hl hl1 hr ha
    rw [ha] at ad
    rw [ev_cmp, ev_var rfl, bind_ok, ev_var rfl, bind_ok, cmpD_in, ad]
    simp [-Out.bind]
    refine w_ret rfl ?_
    simp [-Out.bind, gd _ hgk, lim, -idxD_ref]
    exact gd_ret (x := .nt .non) g3 nt_non hq ho hl hl1 hr
  have ks := fun L (h : ke L L = true) => h
  simp only [opW, pureW, riskW, List.mem_append, List.mem_cons, List.not_mem_nil, or_false] at hw
  by_cases w1 : w = "neg"
  · subst w1
    refine dictcase a1 [.num] (by simp [getK, kvA, ky]) l1' (by simp [Kd.ok]) (by simp) (by simp) ?_ (by simp [kvA, ky])
    have := ke_self [.num]
    simp [resR, tableR, tabW, tabR, plainK, this, Ex.D, pdNon]
  by_cases w2 : w = "and"
  · subst w2
    refine dictcase a2 [.truth, .truth] (by simp [getK, kvA, ky]) l2' (by simp [Kd.ok]) (by simp) (by simp) ?_ (by simp [kvA, ky])
    have := ke_self [.truth, .truth]
    simp [resR, tableR, tabW, tabR, plainK, this, Ex.D, pdNon]
  by_cases w3 : w = "or"
  · subst w3
    refine dictcase a3 [.truth, .truth] (by simp [getK, kvA, ky]) l3' (by simp [Kd.ok]) (by simp) (by simp) ?_ (by simp [kvA, ky])
    have := ke_self [.truth, .truth]
    simp [resR, tableR, tabW, tabR, plainK, this, Ex.D, pdNon]
  by_cases w4 : w = "not"
  · subst w4
    refine dictcase a4 [.truth] (by simp [getK, kvA, ky]) l4' (by simp [Kd.ok]) (by simp) (by simp) ?_ (by simp [kvA, ky])
    have := ke_self [.truth]
    simp [resR, tableR, tabW, tabR, plainK, this, Ex.D, pdNon]
  by_cases w5 : w = "copy"
  · subst w5
    refine dictcase a5 [K] (by simp [getK, kvA, ky]) l5' (by simpa using hK) (by simp) (by simp) ?_ (by simp [kvA, ky])
    simp [resR, Ex.D, kdNon]
  by_cases w6 : w = "pick"
  · subst w6
    refine dictcase S2.length [.row k, .num] (by simp [getK, kvA, kvB, ky]) l6' (by simpa [Kd.ok] using r1) (by simp) (by simp) ?_ (by simp [kvA, kvB, ky])
    have := ke_self [.num]
    simp [resR, pickR, this, Ex.D, isRow, pdNon]
  by_cases w7 : w = "lay"
  · subst w7
    refine dictcase (S2.length + 1) [.row k, .num, .num] (by simp [getK, kvA, kvB, ky]) l7' (by simpa [Kd.ok] using r1) (by simp) (by simp) ?_ (by simp [kvA, kvB, ky])
    have := ke_self [.num, .num]
    simp [resR, layR, this, Ex.D, isRow, kdNon]
  have hn : ((kvA a1 a2 a3 a4 a5 ++ kvB S2.length (S2.length + 1)).any fun kv => decide (kv.1 = ky w)) = false := by
    simp [kvA, kvB, ky, eq_comm, w1, w2, w3, w4, w5, w6, w7]
  rw [hn] at ad
  rw [ev_cmp, ev_var rfl, bind_ok, ev_var rfl, bind_ok, cmpD_in, ad]
  simp [-Out.bind]
  have he : w = "make" ∨ w = "get" ∨ w = "put" ∨ w = "less" ∨ w = "same" ∨ (sumW.any fun t => decide (w = t)) = true := by
    simp only [sumW, List.any_cons, List.any_nil, Bool.or_false, Bool.or_eq_true, decide_eq_true_eq]
    rcases hw with (h | h | h | h | h | h | h | h | h | h | h | h) | (h | h | h | h | h) <;> simp [h] <;> first | exact absurd h w1 | exact absurd h w2 | exact absurd h w3 | exact absurd h w4 | exact absurd h w5 | exact absurd h w6 | exact absurd h w7
  refine w_if rfl ?_
  by_cases wm : w = "make" ∨ w = "get" ∨ w = "put"
  · have c1 : (decide (w = "make") || (decide (w = "get") || decide (w = "put"))) = true := by simpa using wm
    simp [-Out.bind, lim, make3, c1]
    refine w_set rfl ?_
    obtain ⟨_, S4, e4, g4, L, hL, hLp, rfl⟩ := (whole_f17 n b3).ex
    simp [-Out.bind, hf, e4]
    refine w_set rfl ?_
    obtain ⟨_, S5, e5, q5, rfl, hq5, x5⟩ := (parts_ok (n + 4) hL S4).ex
    simp [-Out.bind, hf, e5]
    have g5 : Gb r S S5 := (g3.trans g4).ext x5
    refine w_if rfl ?_
    have q5r : q5 ≠ r := by
      intro z
      subst z
      obtain ⟨c, l, n', hb⟩ := g5.1
      rw [hb] at hq5
      injection hq5 with hq5
      injection hq5 with hq5
      cases hpp : L.parts with
      | nil => rw [hpp] at hLp; cases hLp
      | cons b bs =>
        rw [hpp] at hq5
        injection hq5 with h1 _
        cases b <;> cases h1
    have lq5 : LstAt r S5 q5 (L.parts.map plainK) := ⟨q5r, by rw [plainKs_D]; exact hq5⟩
    have po : ∀ K ∈ L.parts.map plainK, K.ok := by
      intro K hK
      obtain ⟨b, _, rfl⟩ := List.mem_map.mp hK
      cases b <;> trivial
    have hpl : 1 ≤ L.parts.length := by
      cases hpp : L.parts with
      | nil => rw [hpp] at hLp; cases hLp
      | cons b bs => simp
    have hpl6 := Kd.parts_len hL
    by_cases wk : w = "make"
    · subst wk
      simp [-Out.bind, eq_ss]
      refine w_ret rfl ?_
      simp [-Out.bind, lim]
      refine gd_ret (x := .kd L) g5 hL lq5 po (by simpa using hpl6) (by simpa using hpl) ?_
      simp [resR, makeK, hLp, ke_self, kdNon]
    simp [-Out.bind, eq_ss, wk]
    refine w_set rfl ?_
    obtain ⟨_, S6, e6, g6, i, hi0, hi1, rfl⟩ := (take_ok (n + 3) (m := L.parts.length) g5.1 (by omega) (by omega)).ex
    have hq6 := (lq5.fr g6).at_
    rw [plainKs_D] at hq6
    have b6 : biD .len [.ref q5] S5 = .ok (.int L.parts.length) S5 := by rw [bi_len (n := L.parts.length)]; simp [hq5]
    simp [-Out.bind, b6, hf, e6]
    have g7 : Gb r S S6 := g5.trans g6
    obtain ⟨b, hb, ha⟩ := at_part (K := L) ⟨hi0, hi1⟩
    have hp : partOf (.int i) L = some b := by
      simp only [partOf]
      rw [if_pos ⟨hi0, hi1⟩, hb]
    refine w_if rfl ?_
    by_cases wg : w = "get"
    · subst wg
      simp [-Out.bind, eq_ss]
      refine w_ret rfl ?_
      simp [-Out.bind, lim]
      have := gd_ret (w := "get") (S1 := S6 ++ [.lst [L.D]]) (q := S6.length) (Ks := [L]) (x := .nt (.int i)) (g7.ext (Ext_app _ _)) (nt_int _) ⟨by have := g6.1.lt; omega, by simp⟩ (by simpa using hL) (by simp) (by simp) (by simp [resR, getR, Ex.D, hp, ob, pdNon])
      simp [Ex.D] at this
      exact this
    · simp [-Out.bind, eq_ss, wg]
      have wp : w = "put" := by
        rcases wm with h | h | h
        · exact absurd h wk
        · exact absurd h wg
        · exact h
      subst wp
      refine w_ret rfl ?_
      simp [-Out.bind, lim, hq6, ha]
      have hko : (plainK b).ok := by cases b <;> trivial
      have hks := k1_self (plainK b)
      have := gd_ret (w := "put") (S1 := S6 ++ [.lst [L.D, (plainK b).D]]) (q := S6.length) (Ks := [L, plainK b]) (x := .nt (.int i)) (g7.ext (Ext_app _ _)) (nt_int _) ⟨by have := g6.1.lt; omega, by simp⟩ (by simp [hL, hko]) (by simp) (by simp) (by simp [resR, putR, Ex.D, hp, hks, kdNon])
      rw [plainK_D] at this
      simp [Ex.D] at this
      exact this
  · have c1 : (decide (w = "make") || (decide (w = "get") || decide (w = "put"))) = false := by simpa using wm
    simp [-Out.bind, lim, make3, c1]
    refine w_ret rfl ?_
    simp [-Out.bind, lim]
    have m1 : ¬ w = "make" := fun z => wm (.inl z)
    have m2 : ¬ w = "get" := fun z => wm (.inr (.inl z))
    have m3 : ¬ w = "put" := fun z => wm (.inr (.inr z))
    have t1 : tabW w = [false, false] := by unfold tabW; rw [if_neg (fun z => z.elim w2 w3), if_neg w4, if_neg w1]
    have hks := ke_self [.num, .num]
    have := gd_ret (w := w) (S1 := S3 ++ [.lst [Kd.num.D, Kd.num.D]]) (q := S3.length) (Ks := [.num, .num]) (x := .nt .non) (g3.ext (Ext_app _ _)) nt_non ⟨by have := b3.lt; omega, by simp⟩ (by simp [Kd.ok]) (by simp) (by simp) (by simp [resR, m1, m2, m3, w5, w6, w7, Ex.D, tableR, t1, plainK, hks, pdNon])
    simp [Ex.D] at this
    exact this
end My

namespace My
open PySem L2 Mi
theorem pick_at {n : Nat} {Y : Fs} (hf : Y.f = fnN G (n + 2)) {le : E} {ds : List D} {m : Int} {env : Mi.Env} {r q j : Nat} {S S0 : Sto} (he : ev Y le env S = .ok (.ref q) S0) (hq : S0[q]? = some (.lst ds)) (hqr : q ≠ r) (hb : Bx r S0) (hv : env[j]? = some (some (.ref r))) (h0 : 0 < m) (h1 : m ≤ ds.length) (hl : ds.length ≤ 1000) :
    (ev Y (.idx le (.call 13 (.cons (.var j) (.cons (.con (.int m)) .nil)))) env S).Ok fun v S' => Gb r S0 S' ∧ v ∈ ds := by
  obtain ⟨_, S2, e2, g2, x, hx0, hx1, rfl⟩ := (take_ok n (m := m) hb h0 (by omega)).ex
  have hq2 : S2[q]? = some (.lst ds) := g2.2 _ _ hqr hq
  obtain ⟨d, hd, e3⟩ := atI_mem (xs := ds) (k := x) hx0 (by omega)
  rw [ev_idx, he, bind_ok, ev_call, evs_cons, ev_var hv, bind_ok, evs_cons, ev_con, bind_ok, evs_nil]
  simp only [bind_ok, hf, e2, idxD_ref, hq2, e3, oD_some_, Ok_ok]
  exact ⟨g2, hd⟩
theorem pick_ok {n : Nat} {Y : Fs} (hf : Y.f = fnN G (n + 2)) {es : Es} {ds : List D} {m : Int} {env : Mi.Env} {r j : Nat} {S S0 : Sto} (he : evs Y es env S = .ok ds S0) (hb : Bx r S0) (hv : env[j]? = some (some (.ref r))) (h0 : 0 < m) (h1 : m ≤ ds.length) (hl : ds.length ≤ 1000) :
    (ev Y (.idx (.lst es) (.call 13 (.cons (.var j) (.cons (.con (.int m)) .nil)))) env S).Ok fun v S' => Gb r S0 S' ∧ v ∈ ds := by
  have e : ev Y (.lst es) env S = .ok (.ref S0.length) (S0 ++ [.lst ds]) := by
    rw [ev_lst, he, bind_ok, if_pos (by simp only [lim]; omega), new_eq]
  refine Ok_imp (pick_at hf e (by simp) (Nat.ne_of_gt hb.lt) (hb.app _) hv h0 h1 hl) ?_
  rintro v S' ⟨g, hv⟩
  exact ⟨⟨g.1, (Fr.app _).trans g.2⟩, hv⟩
theorem cut_kds {Ks : List Kd} {lo hi : Option Int} (hK : ∀ K ∈ Ks, K.ok) : ∃ Ls : List Kd, cutD (Ks.map Kd.D) lo hi = Ls.map Kd.D ∧ (∀ K ∈ Ls, K.ok) ∧ Ls.length ≤ Ks.length := by
  refine ⟨(Ks.drop (HT.sIx (Ks.map Kd.D).length 0 lo)).take (HT.sIx (Ks.map Kd.D).length (Ks.map Kd.D).length hi - HT.sIx (Ks.map Kd.D).length 0 lo), ?_, ?_, ?_⟩
  · rw [cutD, List.map_take, List.map_drop]
  · intro K h
    exact hK K (List.drop_subset _ _ (List.take_subset _ _ h))
  · rw [List.length_take, List.length_drop]; omega
/-- an operation, an extra, kinds, whatever they are -/
def Sp (r : Nat) (S : Sto) (o : D) (m : Nat) (v : D) : Prop := ∃ l q, ∃ x : Ex, ∃ Ks : List Kd, v = .ref l ∧ S[l]? = some (.lst [o, x.D, .ref q]) ∧ LstAt r S q Ks ∧ x.ok (· = r) S ∧ (∀ K ∈ Ks, K.ok) ∧ Ks.length ≤ m
theorem FrR.fr1 {r : Nat} {S S' : Sto} (g : Gb r S S') : FrR (· = r) S S' := fun n o hn e => g.2 n o hn e
theorem spoilt_f19 (n : Nat) {r l q : Nat} {S : Sto} {o : D} {x : Ex} {Ks : List Kd} (h : Bx r S) (hl : S[l]? = some (.lst [o, x.D, .ref q])) (hq : LstAt r S q Ks) (hx : x.ok (· = r) S) (hK : ∀ K ∈ Ks, K.ok) (hm : Ks.length ≤ 6) (h1 : 1 ≤ Ks.length) :
    (fnN G (n + 5) 19 [.ref r, .ref l] S).Ok fun v S' => Gb r S S' ∧ Sp r S' o 13 v := by
  generalize hF : fnN G (n + 5) = F
  refine run_okF hF f19 rfl rfl fun Y hf hg => ?_
  simp [f19]
  refine w_setT rfl ?_
  simp [-Out.bind, asgS, setAll, sqAt, seqAt, lstAt, hl]
  refine w_set rfl ?_
  obtain ⟨_, S1, e1, g1, way, hw0, hw1, rfl⟩ := (take_ok (n + 2) (m := 7) h (by decide) (by decide)).ex
  simp [-Out.bind, hf, e1]
  have fin : ∀ (S' : Sto) (x' : Ex) (q' : Nat) (Ks' : List Kd) (env : Mi.Env), env[2]? = some (some o) → env[3]? = some (some x'.D) → env[4]? = some (some (.ref q')) → Gb r S S' → LstAt r S' q' Ks' → x'.ok (· = r) S' → (∀ K ∈ Ks', K.ok) → Ks'.length ≤ 13 →
      (execs Y f19_0 env S').F ⟨fun _ S_1 => Gb r S S_1 ∧ Sp r S_1 o 13 .non, fun v S' => Gb r S S' ∧ Sp r S' o 13 v, fun _ _ => False, fun _ _ => False⟩ := by
    intro S' x' q' Ks' env v2 v3 v4 g hq' hx' hK' hl'
    refine w_ret rfl ?_
    simp [-Out.bind, lim, ev_var v2, ev_var v3, ev_var v4]
    exact ⟨g.ext (Ext_app _ _), S'.length, q', x', Ks', rfl, by simp, hq'.ext (Ext_app _ _), hx'.fr (FrR.ext (Ext_app _ _)), hK', hl'⟩
  have hx1 := hx.fr (FrR.fr1 g1)
  have hq1 := hq.fr g1
  by_cases w0 : way = 0
  · subst w0
    refine w_if rfl ?_
    simp [-Out.bind, eq_ii]
    refine w_set rfl ?_
    have rl := g1.1.lt
    refine Ok_imp (pick_ok hf (r := r) (S0 := S1 ++ [.lst []] ++ [.dK []]) (ds := [.non, .int 0, .int 1, .int (-1), .bl true, .bl false, .int 7, .str "x", Kd.num.D, (Kd.row 2).D, .ref S1.length, .ref (S1.length + 1)]) (m := 12) ?_ (by rw [List.append_assoc]; exact g1.1.app _) rfl (by decide) (by simp) (by simp)) ?_
    · simp [-Out.bind, lim, Kd.D, pD]
    rintro v S2 ⟨g2, hv⟩
    have gg : Gb r S S2 := ⟨g2.1, (g1.2.trans (by rw [List.append_assoc]; exact Fr.app _)).trans g2.2⟩
    have a1 : S2[S1.length]? = some (.lst []) := g2.2 _ _ (by omega) (by simp)
    have a2 : S2[S1.length + 1]? = some (.dK []) := g2.2 _ _ (by omega) (by simp)
    have hex : ∃ x' : Ex, x'.D = v ∧ x'.ok (· = r) S2 := by
      simp only [List.mem_cons, List.not_mem_nil, or_false] at hv
      rcases hv with rfl | rfl | rfl | rfl | rfl | rfl | rfl | rfl | rfl | rfl | rfl | rfl
      · exact ⟨.nt .non, rfl, nt_non⟩
      · exact ⟨.nt _, rfl, nt_int _⟩
      · exact ⟨.nt _, rfl, nt_int _⟩
      · exact ⟨.nt _, rfl, nt_int _⟩
      · exact ⟨.nt _, rfl, .inl (.bl _), rfl⟩
      · exact ⟨.nt _, rfl, .inl (.bl _), rfl⟩
      · exact ⟨.nt _, rfl, nt_int _⟩
      · exact ⟨.nt _, rfl, .inl (.str "x"), rfl⟩
      · exact ⟨.kd .num, rfl, trivial⟩
      · exact ⟨.kd (.row 2), rfl, by simp [Ex.ok, Kd.ok]⟩
      · exact ⟨.nt _, rfl, .inl (.lst (by omega) a1 .nil), rfl⟩
      · exact ⟨.nt _, rfl, .inr ⟨_, _, rfl, by omega, a2⟩, rfl⟩
    obtain ⟨x', rfl, hx'⟩ := hex
    simp [-Out.bind]
    refine w_if rfl ?_
    simp [-Out.bind, eq_ii]
    refine w_if rfl ?_
    simp [-Out.bind, eq_ii]
    refine w_if rfl ?_
    simp [-Out.bind, eq_ii]
    refine w_if rfl ?_
    simp [-Out.bind]
    exact fin S2 x' q Ks _ rfl rfl rfl gg ⟨hq.ne, gg.2 _ _ hq.ne hq.at_⟩ hx' hK (by omega)
  have z0 : (way == 0) = false := beq_false_of_ne w0
  refine w_if rfl ?_
  simp [-Out.bind, eq_ii, z0]
  refine w_if rfl ?_
  by_cases w1 : way = 1
  · subst w1
    simp [-Out.bind, eq_ii]
    refine w_set rfl ?_
    obtain ⟨_, S2, e2, g2, K, hK2, rfl⟩ := (kind_ok n g1.1).ex
    have hq2 : LstAt r (S2 ++ [.lst [K.D]]) q Ks := (hq1.fr g2).ext (Ext_app _ _)
    have q2 := hq2.at_
    have ql : (S2 ++ [MO.lst [K.D]])[S2.length]? = some (.lst [K.D]) := by simp
    have len : (Ks.map Kd.D).length + [K.D].length ≤ lim := by simp [lim]; omega
    have ea : binD .Add (.ref q) (.ref S2.length) (S2 ++ [.lst [K.D]]) = .ok (.ref (S2.length + 1)) (S2 ++ [.lst [K.D]] ++ [.lst (Ks.map Kd.D ++ [K.D])]) := by
      simp [-Out.bind, lstAt, q2]
      simp [lim]; omega
    have gg : Gb r S (S2 ++ [.lst [K.D]] ++ [.lst (Ks.map Kd.D ++ [K.D])]) := ((g1.trans g2).ext (Ext_app _ _)).ext (Ext_app _ _)
    have lq : LstAt r (S2 ++ [.lst [K.D]] ++ [.lst (Ks.map Kd.D ++ [K.D])]) (S2.length + 1) (Ks ++ [K]) := ⟨by have := g2.1.lt; omega, by simp⟩
    simp [-Out.bind, hf, e2, lim, ea, -binD_addR, -List.append_assoc]
    generalize S2 ++ [MO.lst [K.D]] ++ [MO.lst (Ks.map Kd.D ++ [K.D])] = S3 at gg lq
    refine w_if rfl ?_
    simp [-Out.bind, eq_ii]
    refine w_if rfl ?_
    simp [-Out.bind, eq_ii]
    refine w_if rfl ?_
    simp [-Out.bind]
    refine fin S3 x (S2.length + 1) (Ks ++ [K]) _ rfl rfl rfl gg lq (hx.fr (FrR.fr1 gg)) ?_ (by simp; omega)
    intro K' h'
    rcases List.mem_append.mp h' with h' | h'
    · exact hK K' h'
    · rw [List.mem_singleton.mp h']; exact hK2
  have z1 : (way == 1) = false := beq_false_of_ne w1
  simp [-Out.bind, eq_ii, z1]
  refine w_if rfl ?_
  by_cases w2 : way = 2
  · subst w2
    simp [-Out.bind, eq_ii]
    refine w_set rfl ?_
    obtain ⟨Ls, hc, hL, hLl⟩ := cut_kds (lo := some 1) (hi := none) hK
    have es := slc_ref (lo := some 1) (hi := none) hq1.at_
    rw [hc] at es
    have gg : Gb r S (S1 ++ [.lst (Ls.map Kd.D)]) := g1.ext (Ext_app _ _)
    have lq : LstAt r (S1 ++ [.lst (Ls.map Kd.D)]) S1.length Ls := ⟨by have := g1.1.lt; omega, by simp⟩
    simp [-Out.bind, es]
    generalize S1 ++ [MO.lst (Ls.map Kd.D)] = S3 at gg lq
    refine w_if rfl ?_
    simp [-Out.bind, eq_ii]
    refine w_if rfl ?_
    simp [-Out.bind]
    exact fin S3 x S1.length Ls _ rfl rfl rfl gg lq (hx.fr (FrR.fr1 gg)) hL (by omega)
  have z2 : (way == 2) = false := beq_false_of_ne w2
  simp [-Out.bind, eq_ii, z2]
  refine w_if rfl ?_
  by_cases w3 : way = 3
  · subst w3
    simp [-Out.bind, eq_ii]
    refine w_set rfl ?_
    have gg : Gb r S (S1 ++ [.lst (Ks.map Kd.D).reverse]) := g1.ext (Ext_app _ _)
    have lq : LstAt r (S1 ++ [.lst (Ks.map Kd.D).reverse]) S1.length Ks.reverse := ⟨by have := g1.1.lt; omega, by simp⟩
    simp [-Out.bind, seqAt, lstAt, hq1.at_, -List.map_reverse]
    generalize S1 ++ [MO.lst (Ks.map Kd.D).reverse] = S3 at gg lq
    refine w_if rfl ?_
    simp [-Out.bind]
    refine fin S3 x S1.length Ks.reverse _ rfl rfl rfl gg lq (hx.fr (FrR.fr1 gg)) ?_ (by simp; omega)
    intro K' h'
    exact hK K' (List.mem_reverse.mp h')
  have z3 : (way == 3) = false := beq_false_of_ne w3
  simp [-Out.bind, eq_ii, z3]
  refine w_if rfl ?_
  have w4 : 3 < way := by omega
  simp [-Out.bind, w4]
  refine w_set rfl ?_
  have b1 : biD .len [.ref q] S1 = .ok (.int Ks.length) S1 := by rw [bi_len (n := Ks.length)]; simp [hq1.at_]
  obtain ⟨_, S2, e2, g2, i, hi0, hi1, rfl⟩ := (take_ok (n + 2) (m := Ks.length) g1.1 (by omega) (by omega)).ex
  have hq2 := hq1.fr g2
  simp [-Out.bind, hf, b1, e2]
  refine w_set rfl ?_
  obtain ⟨La, ha, hLa, hLal⟩ := cut_kds (lo := none) (hi := some i) hK
  have es := slc_ref (lo := none) (hi := some i) hq2.at_
  rw [ha] at es
  have b3 : Bx r (S2 ++ [.lst (La.map Kd.D)]) := g2.1.app _
  obtain ⟨_, S4, e4, g4, K, hK4, rfl⟩ := (kind_ok n b3).ex
  have g24 : Gb r S2 S4 := (Gb.of g2.1 (Ext_app _ _)).trans g4
  have hq4 := hq2.fr g24
  have ql4 : S4[S2.length]? = some (.lst (La.map Kd.D)) := g4.2 _ _ (by have := g2.1.lt; omega) (by simp)
  have ql5 := (Ext_app S4 [.lst [K.D]]).at ql4
  have ea : binD .Add (.ref S2.length) (.ref S4.length) (S4 ++ [.lst [K.D]]) = .ok (.ref (S4.length + 1)) (S4 ++ [.lst [K.D]] ++ [.lst (La.map Kd.D ++ [K.D])]) := by
    simp [-Out.bind, lstAt, ql5]
    simp [lim]; omega
  have hx5 : Ext S4 (S4 ++ [.lst [K.D]] ++ [.lst (La.map Kd.D ++ [K.D])]) := (Ext_app _ _).trans (Ext_app _ _)
  have ql6 : (S4 ++ [MO.lst [K.D]] ++ [MO.lst (La.map Kd.D ++ [K.D])])[S4.length + 1]? = some (.lst (La.map Kd.D ++ [K.D])) := by simp
  have hlen5 : (S4 ++ [MO.lst [K.D]] ++ [MO.lst (La.map Kd.D ++ [K.D])]).length = S4.length + 2 := by simp
  have hq5 := hq4.ext hx5
  have e4' : fnN G (n + 4) 15 [.ref r] (S2 ++ [.lst (La.map Kd.D)]) = .ok K.D S4 := e4
  generalize hS5 : S4 ++ [MO.lst [K.D]] ++ [MO.lst (La.map Kd.D ++ [K.D])] = S5 at ea hx5 ql6 hq5 hlen5
  obtain ⟨Lb, hb, hLb, hLbl⟩ := cut_kds (lo := some (i + 1)) (hi := none) hK
  have es2 := slc_ref (lo := some (i + 1)) (hi := none) hq5.at_
  rw [hb] at es2
  have ql7 := (Ext_app S5 [.lst (Lb.map Kd.D)]).at ql6
  have ea2 : binD .Add (.ref (S4.length + 1)) (.ref S5.length) (S5 ++ [.lst (Lb.map Kd.D)]) = .ok (.ref (S5.length + 1)) (S5 ++ [.lst (Lb.map Kd.D)] ++ [.lst (La.map Kd.D ++ [K.D] ++ Lb.map Kd.D)]) := by
    simp [-Out.bind, lstAt, ql7]
    simp [lim]; omega
  have gg5 : Gb r S S5 := ((g1.trans g2).trans g24).ext hx5
  have gg : Gb r S (S5 ++ [.lst (Lb.map Kd.D)] ++ [.lst (La.map Kd.D ++ [K.D] ++ Lb.map Kd.D)]) := (gg5.ext (Ext_app _ _)).ext (Ext_app _ _)
  have lq : LstAt r (S5 ++ [.lst (Lb.map Kd.D)] ++ [.lst (La.map Kd.D ++ [K.D] ++ Lb.map Kd.D)]) (S5.length + 1) (La ++ [K] ++ Lb) := ⟨by have := gg5.1.lt; omega, by simp⟩
  simp [-Out.bind, hf, es, e4', lim, ea, es2, ea2, -binD_addR, -List.append_assoc]
  generalize S5 ++ [MO.lst (Lb.map Kd.D)] ++ [MO.lst (La.map Kd.D ++ [K.D] ++ Lb.map Kd.D)] = S6 at gg lq
  refine fin S6 x (S5.length + 1) (La ++ [K] ++ Lb) _ rfl rfl rfl gg lq (hx.fr (FrR.fr1 gg)) ?_ (by simp; omega)
  intro K' h'
  rcases List.mem_append.mp h' with h' | h'
  · rcases List.mem_append.mp h' with h' | h'
    · exact hLa K' h'
    · rw [List.mem_singleton.mp h']; exact hK4
  · exact hLb K' h'
end My

namespace My
open PySem L2 Mi
theorem eq_bb {S : Sto} {a b : Bool} : eqD S (.bl a) (.bl b) = some (a == b) := by
  rw [eqD_of (x := .bool a) (y := .bool b) rfl rfl, q_bool_bool]
theorem truly_ok (n : Nat) {b : Bool} {S : Sto} : fnN G (n + 1) 24 [.bl b, .bl b] S = .ok (.bl true) S := by
  have q : (fnN G (n + 1) 24 [.bl b, .bl b] S).Ok fun v S' => S' = S ∧ v = .bl true := by
    refine run_ok f24 rfl rfl fun Y hf hg => ?_
    simp [f24]
    refine w_ret rfl ?_
    have t : isTys S (.bl b) [.b .bool] = some true := rfl
    simp [-Out.bind, t, eq_bb]
  obtain ⟨v, S', e, rfl, rfl⟩ := q.ex
  exact e
theorem non_non {S : Sto} : eqD S .non .non = some true := by
  rw [eqD_of (x := .none) (y := .none) rfl rfl]; simp
/-- what is given is a kind, or None -/
def KN (v : D) : Prop := v = .non ∨ ∃ K : Kd, v = K.D
theorem KN.eq {S : Sto} {v : D} (h : KN v) : eqD S v v = some true := by
  rcases h with rfl | ⟨K, rfl⟩
  · exact non_non
  · rw [eq_kk, k1_self]
theorem kn_ob (o : Option Bool) : KN (ob o) := by
  cases o with
  | none => exact .inl rfl
  | some b => exact .inr ⟨plainK b, (plainK_D b).symm⟩
theorem kn_pd (b : Bool) : KN (pD b) := .inr ⟨plainK b, (plainK_D b).symm⟩
theorem kn_if {p : Prop} [Decidable p] {a b : D} (ha : KN a) (hb : KN b) : KN (if p then a else b) := by
  split
  · exact ha
  · exact hb
theorem kn_non : KN .non := .inl rfl
theorem kn_kd (K : Kd) : KN K.D := .inr ⟨K, rfl⟩
theorem res_kn {w : String} {x : Ex} {Ks : List Kd} : KN (resR w x Ks) := by
  unfold resR
  refine kn_if ?_ (kn_if ?_ (kn_if ?_ (kn_if kn_non (kn_if ?_ (kn_if ?_ (kn_if ?_ ?_))))))
  · cases x with
    | kd K => exact kn_if (kn_kd _) kn_non
    | nt e => exact kn_non
  · match Ks with
    | [] => exact kn_non
    | [K] => exact kn_ob _
    | _ :: _ :: _ => exact kn_non
  · match Ks with
    | [] => exact kn_non
    | [K] => exact kn_non
    | [K, L] =>
      show KN (match partOf x.D K with
        | some b => if k1 (plainK b) L = true then K.D else .non
        | none => .non)
      cases partOf x.D K with
      | none => exact kn_non
      | some b => exact kn_if (kn_kd _) kn_non
    | _ :: _ :: _ :: _ => exact kn_non
  · match Ks with
    | [] => exact kn_non
    | [K] => exact kn_kd _
    | _ :: _ :: _ => exact kn_non
  · match Ks with
    | [] => exact kn_non
    | K :: r => exact kn_if (kn_pd _) kn_non
  · match Ks with
    | [] => exact kn_non
    | K :: r => exact kn_if (kn_kd _) kn_non
  · exact kn_if (kn_pd _) kn_non
def Opr (r : Nat → Prop) (S : Sto) (o : D) : Prop := (∃ w, w ∈ opW ∧ o = .str w) ∨ Odd r S o
theorem Opr.fr {r : Nat → Prop} {S S' : Sto} {o : D} (h : Opr r S o) (f : FrR r S S') : Opr r S' o := by
  rcases h with h | h
  · exact .inl h
  · exact .inr (h.fr f)
theorem opW_any {w : String} (h : w ∈ opW) : (pureW.any fun t => decide (w = t)) = true ∨ (riskW.any fun t => decide (w = t)) = true := by
  rcases List.mem_append.mp h with h | h
  · exact .inl (List.any_eq_true.mpr ⟨w, h, by simp⟩)
  · exact .inr (List.any_eq_true.mpr ⟨w, h, by simp⟩)
def wordsD (ws : List String) : List D := ws.map fun (w : String) => D.str w
section
variable {r : Nat → Prop} {S : Sto} {o : D}
theorem pure_both (n : Nat) (h : Opr r S o) : ∃ b, fnN G (n + 1) 4 [o] S = .ok (.bl b) S ∧ anyEq S o (wordsD pureW) = some b := by
  rcases h with ⟨w, _, rfl⟩ | h
  · exact ⟨_, pure_f4 n w S, any3 _⟩
  · exact ⟨_, pure_odd n h, h.any _ (by decide)⟩
theorem risk_both (n : Nat) (h : Opr r S o) : ∃ b, fnN G (n + 1) 5 [o] S = .ok (.bl b) S ∧ anyEq S o (wordsD riskW) = some b := by
  rcases h with ⟨w, _, rfl⟩ | h
  · exact ⟨_, risk_f5 n w S, any3 _⟩
  · exact ⟨_, risk_odd n h, h.any _ (by decide)⟩
theorem both (n : Nat) (h : Opr r S o) {x : Ex} (hx : x.ok r S) {Ks : List Kd} (hK : ∀ K ∈ Ks, K.ok) (hl : Ks.length ≤ 900) {kd : D} (hkd : biD .tup1 [kd] S = .ok (.tup (Ks.map Kd.D)) S) {q : Nat} (hq : S[q]? = some (.lst (Ks.map Kd.D))) : ∃ v, KN v ∧ (fnN G (n + 5) 10 [o, x.D, kd] S).Ok fun v' S1 => v' = v ∧ Ext S S1 ∧ (fnN G (n + 5) 23 [o, x.D, .ref q] S1).Ok fun v' S2 => v' = v ∧ Ext S S2 := by
  rcases h with ⟨w, hw, rfl⟩ | h
  · refine ⟨resR w x Ks, res_kn, Ok_imp (res_f10 n (opW_any hw) hx hK hl hkd) ?_⟩
    rintro v' S1 ⟨x1, rfl⟩
    refine ⟨rfl, x1, Ok_imp (due_f23 (n + 1) (opW_any hw) (hx.fr (FrR.ext x1)) hK (x1.at hq)) ?_⟩
    rintro v' S2 ⟨x2, rfl⟩
    exact ⟨rfl, x1.trans x2⟩
  · refine ⟨.non, kn_non, Ok_imp (res_odd (n + 3) h hx hkd) ?_⟩
    rintro v' S1 ⟨x1, rfl⟩
    refine ⟨rfl, x1, Ok_imp (due_odd (n + 4) (h.fr (FrR.ext x1)) (x := x) (ks := .ref q)) ?_⟩
    rintro v' S2 ⟨x2, rfl⟩
    exact ⟨rfl, x1.trans x2⟩
end
/-- odd words -/
theorem odd_str {r : Nat → Prop} {S : Sto} {w : String} (h : ∀ t ∈ opW, decide (w = t) = false) : Odd r S (.str w) := ⟨.inl (.str w), fun t ht => by rw [str_strIs, h t ht]⟩
theorem odd_of {r : Nat → Prop} {S : Sto} {o : D} (h : Da r 12 S o ∨ Di r S o) (h2 : ∀ t, strIs t o = false) : Odd r S o := ⟨h, fun t _ => h2 t⟩
end My

namespace My
open PySem L2 Mi
theorem law_ok (ns : List Int) (hl : ns.length ≤ 63) : (fnN G 60 25 [.rol (ns.map .int)] []).Ok fun v _ => v = .bl true := by
  generalize hF : fnN G 60 = F
  refine run_okF (n := 59) hF f25 rfl rfl fun Y hf hg => ?_
  simp [f25]
  refine w_set (e := .lst (.cons (.con (.str "copy")) (.cons (.con (.str "neg")) (.cons (.con (.str "add")) (.cons (.con (.str "sub")) (.cons (.con (.str "less")) (.cons (.con (.str "same")) (.cons (.con (.str "and")) (.cons (.con (.str "or")) (.cons (.con (.str "not")) (.cons (.con (.str "make")) (.cons (.con (.str "get")) (.cons (.con (.str "put")) .nil))))))))))))) rfl ?_
  have h1 : ev Y (.lst (.cons (.con (.str "copy")) (.cons (.con (.str "neg")) (.cons (.con (.str "add")) (.cons (.con (.str "sub")) (.cons (.con (.str "less")) (.cons (.con (.str "same")) (.cons (.con (.str "and")) (.cons (.con (.str "or")) (.cons (.con (.str "not")) (.cons (.con (.str "make")) (.cons (.con (.str "get")) (.cons (.con (.str "put")) .nil))))))))))))) [some (.rol (ns.map .int)), none, none, none, none, none, none, none, none] [] = .ok (.ref 0) [.lst (wordsD pureW)] := by
    simp [-Out.bind, lim, wordsD, pureW]
  rw [h1, Ok_ok]
  refine w_set (e := .lst (.cons (.con (.str "mul")) (.cons (.con (.str "div")) (.cons (.con (.str "mod")) (.cons (.con (.str "pick")) (.cons (.con (.str "lay")) .nil)))))) rfl ?_
  have h2 : ev Y (.lst (.cons (.con (.str "mul")) (.cons (.con (.str "div")) (.cons (.con (.str "mod")) (.cons (.con (.str "pick")) (.cons (.con (.str "lay")) .nil)))))) [some (.rol (ns.map .int)), some (.ref 0), none, none, none, none, none, none, none] [.lst (wordsD pureW)] = .ok (.ref 1) [.lst (wordsD pureW), .lst (wordsD riskW)] := by
    simp [-Out.bind, lim, wordsD, riskW]
  have e12 : (([some (.rol (ns.map .int)), none, none, none, none, none, none, none, none] : Mi.Env).set 1 (some (.ref 0))) = [some (.rol (ns.map .int)), some (.ref 0), none, none, none, none, none, none, none] := rfl
  rw [e12, h2, Ok_ok]
  refine w_for rfl ?_
  rw [evI_head (a := 2) (b := 60) 2 60 (xs := ns.map .int) rfl rfl rfl (by decide) (by decide), Ok_ok]
  refine for_rng (fun i e S' => S'[0]? = some (.lst (wordsD pureW)) ∧ S'[1]? = some (.lst (wordsD riskW)) ∧ ∃ a b c d f g, e = [some (.rol (ns.map .int)), some (.ref 0), some (.ref 1), a, b, c, d, f, g]) (by simp only [lim]; omega) ⟨rfl, rfl, _, _, _, _, _, _, rfl⟩ ?_ ?_
  · rintro i e S0 ⟨p0, p1, a, b, c, d, f, g, rfl⟩ hi
    simp [-Out.bind]
    refine w_set rfl ?_
    obtain ⟨_, S1, e1, r, rfl, b1, x1⟩ := (box_ok 58 (cs := ns) (k := (i : Int)) (by omega) S0).ex
    have p0 := x1.at p0
    have p1 := x1.at p1
    have r0 : 0 ≠ r := by
      rintro rfl
      obtain ⟨c, l, n', hb⟩ := b1
      rw [hb] at p0
      injection p0 with p0
      injection p0 with p0
      injection p0 with p0
      cases p0
    have r1 : 1 ≠ r := by
      rintro rfl
      obtain ⟨c, l, n', hb⟩ := b1
      rw [hb] at p1
      injection p1 with p1
      injection p1 with p1
      injection p1 with p1
      cases p1
    simp [-Out.bind, hf, e1]
    refine w_setT rfl ?_
    have hadd : ev Y (.bin .Add (.var 1) (.var 2)) [some (.rol (ns.map .int)), some (.ref 0), some (.ref 1), some (.int i), some (.ref r), c, d, f, g] S1 = .ok (.ref S1.length) (S1 ++ [.lst (wordsD pureW ++ wordsD riskW)]) := by
      simp [-Out.bind, lstAt, p0, p1]
      decide
    have pk := pick_at (n := 57) (j := 4) (r := r) (m := 17) (ds := wordsD pureW ++ wordsD riskW) hf hadd (by simp) (Nat.ne_of_gt b1.lt) (b1.app _) rfl (by decide) (by decide) (by decide)
    obtain ⟨o, S2, e2, g2, ho⟩ := pk.ex
    have hw : ∃ w, w ∈ opW ∧ D.str w = o := by
      have : o ∈ opW.map fun (w : String) => D.str w := by rw [opW, List.map_append]; exact ho
      obtain ⟨w, hw, rfl⟩ := List.mem_map.mp this
      exact ⟨w, hw, rfl⟩
    obtain ⟨w, hw, rfl⟩ := hw
    have g2 : Gb r S1 S2 := (Gb.of b1 (Ext_app _ _)).trans g2
    have p0 := g2.2 _ _ r0 p0
    have p1 := g2.2 _ _ r1 p1
    obtain ⟨_, S3, e3, g3, l, q, x, Ks, rfl, hl3, hq3, hx3, hK, hK6, hK1, hR⟩ := (good_f18 53 hw g2.1).ex
    have p0 := g3.2 _ _ r0 p0
    have p1 := g3.2 _ _ r1 p1
    rw [ev_call, evs_cons, ev_var rfl, bind_ok, evs_cons, e2]
    simp [-Out.bind, hf, e3, asgS, setAll, sqAt, seqAt, lstAt, hl3]
    refine w_if rfl ?_
    have t7 : biD .tup1 [.ref q] S3 = .ok (.tup (Ks.map Kd.D)) S3 := by simp [biD, seqAt, lstAt, hq3.at_]
    have t8 : biD .tup1 [.tup (Ks.map Kd.D)] S3 = .ok (.tup (Ks.map Kd.D)) S3 := by simp [biD, seqAt]
    obtain ⟨_, S4, e4, x4, rfl⟩ := (res_f10 54 (opW_any hw) hx3 hK (by omega) t8).ex
    have hq4 := hq3.ext x4
    obtain ⟨_, S5, e5, x5, rfl⟩ := (due_f23 55 (opW_any hw) (hx3.fr (FrR.ext x4)) hK hq4.at_).ex
    have hq5 := hq4.ext x5
    obtain ⟨_, S6, e6, x6, rfl⟩ := (due_f23 55 (opW_any hw) (hx3.fr (FrR.ext (x4.trans x5))) hK hq5.at_).ex
    have eqr := (res_kn (w := w) (x := x) (Ks := Ks)).eq (S := S5)
    simp [-Out.bind, t7, hf, e4, e5, e6, eqr, hR]
    have x36 := (x4.trans x5).trans x6
    have hq6 := hq3.ext x36
    have hx6 := hx3.fr (FrR.ext x36)
    have b6 := g3.1.ext x36
    have p0 := x36.at p0
    have p1 := x36.at p1
    refine w_setT rfl ?_
    have b7 : Bx r (S6 ++ [.lst [.str w, x.D, .ref q]]) := b6.app _
    obtain ⟨_, S8, e8, g8, l8, q8, y, Ls, rfl, hl8, hq8, hy8, hL, hL8⟩ := (spoilt_f19 54 (l := S6.length) (o := .str w) (x := x) (q := q) b7 (by simp) (hq6.ext (Ext_app _ _)) (hx6.fr (FrR.ext (Ext_app _ _))) hK hK6 hK1).ex
    have e8' : fnN G 59 19 [.ref r, .ref S6.length] (S6 ++ [.lst [.str w, x.D, .ref q]]) = .ok (.ref l8) S8 := e8
    have p0 := g8.2 _ _ r0 ((Ext_app _ _).at p0)
    have p1 := g8.2 _ _ r1 ((Ext_app _ _).at p1)
    simp [-Out.bind, lim, hf, e8', asgS, setAll, sqAt, seqAt, lstAt, hl8]
    refine w_if rfl ?_
    obtain ⟨_, S9, e9, g9, z, hz0, hz1, rfl⟩ := (take_ok 57 (m := 5) g8.1 (by decide) (by decide)).ex
    have p0 := g9.2 _ _ r0 p0
    have p1 := g9.2 _ _ r1 p1
    have hq9 := hq8.fr g9
    have hy9 := hy8.fr (FrR.fr1 g9)
    simp [-Out.bind, hf, e9, eq_ii]
    -- behind the choice of another word
    have rest : ∀ (S : Sto) (o : D) (h8 : Option D), S[0]? = some (.lst (wordsD pureW)) → S[1]? = some (.lst (wordsD riskW)) → LstAt r S q8 Ls → y.ok (· = r) S → Opr (· = r) S o →
        (execs Y f25_5 [some (.rol (ns.map .int)), some (.ref 0), some (.ref 1), some (.int i), some (.ref r), some o, some y.D, some (.ref q8), h8] S).F ⟨fun e S' => S'[0]? = some (.lst (wordsD pureW)) ∧ S'[1]? = some (.lst (wordsD riskW)) ∧ ∃ a b c d f g, e = [some (.rol (ns.map .int)), some (.ref 0), some (.ref 1), a, b, c, d, f, g], fun v _ => v = .bl true, fun _ _ => False, fun e S' => S'[0]? = some (.lst (wordsD pureW)) ∧ S'[1]? = some (.lst (wordsD riskW)) ∧ ∃ a b c d f g, e = [some (.rol (ns.map .int)), some (.ref 0), some (.ref 1), a, b, c, d, f, g]⟩ := by
      intro S o h8 p0 p1 hq hy ho
      obtain ⟨bp, ep, ap⟩ := pure_both 58 ho
      obtain ⟨br, er, ar⟩ := risk_both 58 ho
      have tp := truly_ok 58 (b := bp) (S := S)
      have tr := truly_ok 58 (b := br) (S := S)
      refine w_if rfl ?_
      simp [-Out.bind, hf, ep, er, tp, tr, p0, p1, ap, ar]
      refine w_set rfl ?_
      have hh : (S ++ [MO.lst (Ls.map Kd.D)])[S.length]? = some (.lst (Ls.map Kd.D)) := by simp
      have x1 : Ext S (S ++ [.lst (Ls.map Kd.D)]) := Ext_app _ _
      simp [-Out.bind, biD, seqAt, lstAt, hq.at_]
      have hq1 := hq.ext x1
      have p0 := x1.at p0
      have p1 := x1.at p1
      have hy1 := hy.fr (FrR.ext x1)
      have ho1 := ho.fr (FrR.ext x1)
      generalize hS1 : S ++ [MO.lst (Ls.map Kd.D)] = S1 at hh x1 hq1 p0 p1 hy1 ho1
      refine w_if rfl ?_
      have t9 : biD .tup1 [.ref S.length] S1 = .ok (.tup (Ls.map Kd.D)) S1 := by simp [biD, seqAt, lstAt, hh]
      obtain ⟨v, kv, hb⟩ := both 54 ho1 hy1 hL (by omega) t9 hq1.at_
      obtain ⟨_, S2, e2, rfl, x2, hb⟩ := hb.ex
      obtain ⟨_, S3, e3, rfl, x3⟩ := hb.ex
      have ek := eq_ll (x3.at hh) (x3.at hq1.at_)
      rw [ke_self] at ek
      simp [-Out.bind, hf, e2, e3, kv.eq, ek]
      exact ⟨x3.at p0, x3.at p1⟩
    by_cases hz : z = 0
    · subst hz
      simp [-Out.bind]
      refine w_set rfl ?_
      have rl := g9.1.lt
      refine Ok_imp (pick_ok (n := 57) hf (j := 4) (r := r) (S0 := S9 ++ [.lst [.str "add"]] ++ [.dK []]) (ds := [.non, .int 5, .bl true, .str "Copy", .str "", .str "call", .str "log", .str "tick", .ref S9.length, .tup [.str "add"], .ref (S9.length + 1), .str "adds"]) (m := 12) ?_ (by rw [List.append_assoc]; exact g9.1.app _) rfl (by decide) (by simp) (by simp)) ?_
      · simp [-Out.bind, lim]
      rintro o T ⟨gT, hv⟩
      have gg : Gb r S9 T := ⟨gT.1, (show Fr r S9 _ by rw [List.append_assoc]; exact Fr.app _).trans gT.2⟩
      have a1 : T[S9.length]? = some (.lst [.str "add"]) := gT.2 _ _ (by omega) (by simp)
      have a2 : T[S9.length + 1]? = some (.dK []) := gT.2 _ _ (by omega) (by simp)
      have ho : Odd (· = r) T o := by
        simp only [List.mem_cons, List.not_mem_nil, or_false] at hv
        rcases hv with rfl | rfl | rfl | rfl | rfl | rfl | rfl | rfl | rfl | rfl | rfl | rfl
        · exact odd_of (.inl .non) fun _ => rfl
        · exact odd_of (.inl (.int _)) fun _ => rfl
        · exact odd_of (.inl (.bl _)) fun _ => rfl
        · exact odd_str (by decide)
        · exact odd_str (by decide)
        · exact odd_str (by decide)
        · exact odd_str (by decide)
        · exact odd_str (by decide)
        · exact odd_of (.inl (.lst (by omega) a1 (k := 11) (.cons (.str _) .nil))) fun _ => rfl
        · exact odd_of (.inl (.tup (k := 11) (.cons (.str _) .nil))) fun _ => rfl
        · exact odd_of (.inr ⟨_, _, rfl, by omega, a2⟩) fun _ => rfl
        · exact odd_str (by decide)
      simp [-Out.bind]
      have := rest T o g (gg.2 _ _ r0 p0) (gg.2 _ _ r1 p1) (hq9.fr gg) (hy9.fr (FrR.fr1 gg)) (.inr ho)
      exact F_imp this (fun _ _ h => h) (fun _ _ h => h) (fun _ _ h => h.elim) (fun _ _ h => h)
    · have z0 : (z == 0) = false := beq_false_of_ne hz
      simp [-Out.bind, z0]
      have := rest S9 (.str w) g p0 p1 hq9 hy9 (.inl ⟨w, hw, rfl⟩)
      exact F_imp this (fun _ _ h => h) (fun _ _ h => h) (fun _ _ h => h.elim) (fun _ _ h => h)
  · rintro e S' ⟨_, _, a, b, c, d, f, g, rfl⟩
    refine w_ret rfl ?_
    simp [-Out.bind]
theorem law_true : ∀ ns : List Int, ns.length ≤ 63 → ∃ S, fnN G 60 25 [.rol (ns.map D.int)] [] = .ok (.bl true) S := fun ns h => by
  obtain ⟨v, S, e, rfl⟩ := (law_ok ns h).ex
  exact ⟨S, e⟩
end My

namespace My
open PySem L2 Mi PySem.Spec PyProof.Rows
theorem all_mk {l : PySem.W.OpenLaw} {w : World} {K : PySem.W.Frag} {h : Heap} {mg : Str → Option Value} {fa : Addr} (X : K.In h) (Gn : h.Ns mainGlobals mg) (hfa : mg "law" = some (.ref fa))
    {od0 an0 : Option Addr} {sl0 : Array (Option Value)} {oc0 kV0 dc0 pm0 cd0 ct0 : Value} {a0 : Addr} (n0 : PySem.W.nsIn K mainGlobals "is_whole" = some (some (.ref a0))) (l0 : K.lookup a0 = some ⟨oc0, od0, .func (PySem.W.fnOf "is_whole" "is_whole" (defArgs (stm 5)) (defBody (stm 5)) (defScope (stm 5)) .none kV0 dc0 pm0 an0 cd0 ct0), sl0⟩) (c0 : PySem.W.codeIn K cd0 "is_whole" = true) (k0 : PySem.W.keepIn K (.ref a0) = true)
    {od1 an1 : Option Addr} {sl1 : Array (Option Value)} {oc1 kV1 dc1 pm1 cd1 ct1 : Value} {a1 : Addr} (n1 : PySem.W.nsIn K mainGlobals "is_plain" = some (some (.ref a1))) (l1 : K.lookup a1 = some ⟨oc1, od1, .func (PySem.W.fnOf "is_plain" "is_plain" (defArgs (stm 6)) (defBody (stm 6)) (defScope (stm 6)) .none kV1 dc1 pm1 an1 cd1 ct1), sl1⟩) (c1 : PySem.W.codeIn K cd1 "is_plain" = true) (k1 : PySem.W.keepIn K (.ref a1) = true)
    {od2 an2 : Option Addr} {sl2 : Array (Option Value)} {oc2 kV2 dc2 pm2 cd2 ct2 : Value} {a2 : Addr} (n2 : PySem.W.nsIn K mainGlobals "is_kind" = some (some (.ref a2))) (l2 : K.lookup a2 = some ⟨oc2, od2, .func (PySem.W.fnOf "is_kind" "is_kind" (defArgs (stm 7)) (defBody (stm 7)) (defScope (stm 7)) .none kV2 dc2 pm2 an2 cd2 ct2), sl2⟩) (c2 : PySem.W.codeIn K cd2 "is_kind" = true) (k2 : PySem.W.keepIn K (.ref a2) = true)
    {od3 an3 : Option Addr} {sl3 : Array (Option Value)} {oc3 kV3 dc3 pm3 cd3 ct3 : Value} {a3 : Addr} (n3 : PySem.W.nsIn K mainGlobals "parts_of" = some (some (.ref a3))) (l3 : K.lookup a3 = some ⟨oc3, od3, .func (PySem.W.fnOf "parts_of" "parts_of" (defArgs (stm 8)) (defBody (stm 8)) (defScope (stm 8)) .none kV3 dc3 pm3 an3 cd3 ct3), sl3⟩) (c3 : PySem.W.codeIn K cd3 "parts_of" = true) (k3 : PySem.W.keepIn K (.ref a3) = true)
    {od4 an4 : Option Addr} {sl4 : Array (Option Value)} {oc4 kV4 dc4 pm4 cd4 ct4 : Value} {a4 : Addr} (n4 : PySem.W.nsIn K mainGlobals "is_pure" = some (some (.ref a4))) (l4 : K.lookup a4 = some ⟨oc4, od4, .func (PySem.W.fnOf "is_pure" "is_pure" (defArgs (stm 12)) (defBody (stm 12)) (defScope (stm 12)) .none kV4 dc4 pm4 an4 cd4 ct4), sl4⟩) (c4 : PySem.W.codeIn K cd4 "is_pure" = true) (k4 : PySem.W.keepIn K (.ref a4) = true)
    {od5 an5 : Option Addr} {sl5 : Array (Option Value)} {oc5 kV5 dc5 pm5 cd5 ct5 : Value} {a5 : Addr} (n5 : PySem.W.nsIn K mainGlobals "is_risky" = some (some (.ref a5))) (l5 : K.lookup a5 = some ⟨oc5, od5, .func (PySem.W.fnOf "is_risky" "is_risky" (defArgs (stm 13)) (defBody (stm 13)) (defScope (stm 13)) .none kV5 dc5 pm5 an5 cd5 ct5), sl5⟩) (c5 : PySem.W.codeIn K cd5 "is_risky" = true) (k5 : PySem.W.keepIn K (.ref a5) = true)
    {od6 an6 : Option Addr} {sl6 : Array (Option Value)} {oc6 kV6 dc6 pm6 cd6 ct6 : Value} {a6 : Addr} (n6 : PySem.W.nsIn K mainGlobals "part_at" = some (some (.ref a6))) (l6 : K.lookup a6 = some ⟨oc6, od6, .func (PySem.W.fnOf "part_at" "part_at" (defArgs (stm 14)) (defBody (stm 14)) (defScope (stm 14)) .none kV6 dc6 pm6 an6 cd6 ct6), sl6⟩) (c6 : PySem.W.codeIn K cd6 "part_at" = true) (k6 : PySem.W.keepIn K (.ref a6) = true)
    {od7 an7 : Option Addr} {sl7 : Array (Option Value)} {oc7 kV7 dc7 pm7 cd7 ct7 : Value} {a7 : Addr} (n7 : PySem.W.nsIn K mainGlobals "whole_kind" = some (some (.ref a7))) (l7 : K.lookup a7 = some ⟨oc7, od7, .func (PySem.W.fnOf "whole_kind" "whole_kind" (defArgs (stm 15)) (defBody (stm 15)) (defScope (stm 15)) .none kV7 dc7 pm7 an7 cd7 ct7), sl7⟩) (c7 : PySem.W.codeIn K cd7 "whole_kind" = true) (k7 : PySem.W.keepIn K (.ref a7) = true)
    {od8 an8 : Option Addr} {sl8 : Array (Option Value)} {oc8 kV8 dc8 pm8 cd8 ct8 : Value} {a8 : Addr} (n8 : PySem.W.nsIn K mainGlobals "placed_kind" = some (some (.ref a8))) (l8 : K.lookup a8 = some ⟨oc8, od8, .func (PySem.W.fnOf "placed_kind" "placed_kind" (defArgs (stm 16)) (defBody (stm 16)) (defScope (stm 16)) .none kV8 dc8 pm8 an8 cd8 ct8), sl8⟩) (c8 : PySem.W.codeIn K cd8 "placed_kind" = true) (k8 : PySem.W.keepIn K (.ref a8) = true)
    {od9 an9 : Option Addr} {sl9 : Array (Option Value)} {oc9 kV9 dc9 pm9 cd9 ct9 : Value} {a9 : Addr} (n9 : PySem.W.nsIn K mainGlobals "plain_kinds" = some (some (.ref a9))) (l9 : K.lookup a9 = some ⟨oc9, od9, .func (PySem.W.fnOf "plain_kinds" "plain_kinds" (defArgs (stm 17)) (defBody (stm 17)) (defScope (stm 17)) .none kV9 dc9 pm9 an9 cd9 ct9), sl9⟩) (c9 : PySem.W.codeIn K cd9 "plain_kinds" = true) (k9 : PySem.W.keepIn K (.ref a9) = true)
    {od10 an10 : Option Addr} {sl10 : Array (Option Value)} {oc10 kV10 dc10 pm10 cd10 ct10 : Value} {a10 : Addr} (n10 : PySem.W.nsIn K mainGlobals "result_kind" = some (some (.ref a10))) (l10 : K.lookup a10 = some ⟨oc10, od10, .func (PySem.W.fnOf "result_kind" "result_kind" (defArgs (stm 18)) (defBody (stm 18)) (defScope (stm 18)) .none kV10 dc10 pm10 an10 cd10 ct10), sl10⟩) (c10 : PySem.W.codeIn K cd10 "result_kind" = true) (k10 : PySem.W.keepIn K (.ref a10) = true)
    {od11 an11 : Option Addr} {sl11 : Array (Option Value)} {oc11 kV11 dc11 pm11 cd11 ct11 : Value} {a11 : Addr} (n11 : PySem.W.nsIn K mainGlobals "_law_mixed" = some (some (.ref a11))) (l11 : K.lookup a11 = some ⟨oc11, od11, .func (PySem.W.fnOf "_law_mixed" "_law_mixed" (defArgs (stm 20)) (defBody (stm 20)) (defScope (stm 20)) .none kV11 dc11 pm11 an11 cd11 ct11), sl11⟩) (c11 : PySem.W.codeIn K cd11 "_law_mixed" = true) (k11 : PySem.W.keepIn K (.ref a11) = true)
    {od12 an12 : Option Addr} {sl12 : Array (Option Value)} {oc12 kV12 dc12 pm12 cd12 ct12 : Value} {a12 : Addr} (n12 : PySem.W.nsIn K mainGlobals "_law_box" = some (some (.ref a12))) (l12 : K.lookup a12 = some ⟨oc12, od12, .func (PySem.W.fnOf "_law_box" "_law_box" (defArgs (stm 21)) (defBody (stm 21)) (defScope (stm 21)) .none kV12 dc12 pm12 an12 cd12 ct12), sl12⟩) (c12 : PySem.W.codeIn K cd12 "_law_box" = true) (k12 : PySem.W.keepIn K (.ref a12) = true)
    {od13 an13 : Option Addr} {sl13 : Array (Option Value)} {oc13 kV13 dc13 pm13 cd13 ct13 : Value} {a13 : Addr} (n13 : PySem.W.nsIn K mainGlobals "_law_take" = some (some (.ref a13))) (l13 : K.lookup a13 = some ⟨oc13, od13, .func (PySem.W.fnOf "_law_take" "_law_take" (defArgs (stm 22)) (defBody (stm 22)) (defScope (stm 22)) .none kV13 dc13 pm13 an13 cd13 ct13), sl13⟩) (c13 : PySem.W.codeIn K cd13 "_law_take" = true) (k13 : PySem.W.keepIn K (.ref a13) = true)
    {od14 an14 : Option Addr} {sl14 : Array (Option Value)} {oc14 kV14 dc14 pm14 cd14 ct14 : Value} {a14 : Addr} (n14 : PySem.W.nsIn K mainGlobals "_law_plain" = some (some (.ref a14))) (l14 : K.lookup a14 = some ⟨oc14, od14, .func (PySem.W.fnOf "_law_plain" "_law_plain" (defArgs (stm 23)) (defBody (stm 23)) (defScope (stm 23)) .none kV14 dc14 pm14 an14 cd14 ct14), sl14⟩) (c14 : PySem.W.codeIn K cd14 "_law_plain" = true) (k14 : PySem.W.keepIn K (.ref a14) = true)
    {od15 an15 : Option Addr} {sl15 : Array (Option Value)} {oc15 kV15 dc15 pm15 cd15 ct15 : Value} {a15 : Addr} (n15 : PySem.W.nsIn K mainGlobals "_law_kind" = some (some (.ref a15))) (l15 : K.lookup a15 = some ⟨oc15, od15, .func (PySem.W.fnOf "_law_kind" "_law_kind" (defArgs (stm 24)) (defBody (stm 24)) (defScope (stm 24)) .none kV15 dc15 pm15 an15 cd15 ct15), sl15⟩) (c15 : PySem.W.codeIn K cd15 "_law_kind" = true) (k15 : PySem.W.keepIn K (.ref a15) = true)
    {od16 an16 : Option Addr} {sl16 : Array (Option Value)} {oc16 kV16 dc16 pm16 cd16 ct16 : Value} {a16 : Addr} (n16 : PySem.W.nsIn K mainGlobals "_law_parts" = some (some (.ref a16))) (l16 : K.lookup a16 = some ⟨oc16, od16, .func (PySem.W.fnOf "_law_parts" "_law_parts" (defArgs (stm 25)) (defBody (stm 25)) (defScope (stm 25)) .none kV16 dc16 pm16 an16 cd16 ct16), sl16⟩) (c16 : PySem.W.codeIn K cd16 "_law_parts" = true) (k16 : PySem.W.keepIn K (.ref a16) = true)
    {od17 an17 : Option Addr} {sl17 : Array (Option Value)} {oc17 kV17 dc17 pm17 cd17 ct17 : Value} {a17 : Addr} (n17 : PySem.W.nsIn K mainGlobals "_law_whole_kind" = some (some (.ref a17))) (l17 : K.lookup a17 = some ⟨oc17, od17, .func (PySem.W.fnOf "_law_whole_kind" "_law_whole_kind" (defArgs (stm 26)) (defBody (stm 26)) (defScope (stm 26)) .none kV17 dc17 pm17 an17 cd17 ct17), sl17⟩) (c17 : PySem.W.codeIn K cd17 "_law_whole_kind" = true) (k17 : PySem.W.keepIn K (.ref a17) = true)
    {od18 an18 : Option Addr} {sl18 : Array (Option Value)} {oc18 kV18 dc18 pm18 cd18 ct18 : Value} {a18 : Addr} (n18 : PySem.W.nsIn K mainGlobals "_law_good" = some (some (.ref a18))) (l18 : K.lookup a18 = some ⟨oc18, od18, .func (PySem.W.fnOf "_law_good" "_law_good" (defArgs (stm 27)) (defBody (stm 27)) (defScope (stm 27)) .none kV18 dc18 pm18 an18 cd18 ct18), sl18⟩) (c18 : PySem.W.codeIn K cd18 "_law_good" = true) (k18 : PySem.W.keepIn K (.ref a18) = true)
    {od19 an19 : Option Addr} {sl19 : Array (Option Value)} {oc19 kV19 dc19 pm19 cd19 ct19 : Value} {a19 : Addr} (n19 : PySem.W.nsIn K mainGlobals "_law_spoilt" = some (some (.ref a19))) (l19 : K.lookup a19 = some ⟨oc19, od19, .func (PySem.W.fnOf "_law_spoilt" "_law_spoilt" (defArgs (stm 28)) (defBody (stm 28)) (defScope (stm 28)) .none kV19 dc19 pm19 an19 cd19 ct19), sl19⟩) (c19 : PySem.W.codeIn K cd19 "_law_spoilt" = true) (k19 : PySem.W.keepIn K (.ref a19) = true)
    {od20 an20 : Option Addr} {sl20 : Array (Option Value)} {oc20 kV20 dc20 pm20 cd20 ct20 : Value} {a20 : Addr} (n20 : PySem.W.nsIn K mainGlobals "_law_due_part" = some (some (.ref a20))) (l20 : K.lookup a20 = some ⟨oc20, od20, .func (PySem.W.fnOf "_law_due_part" "_law_due_part" (defArgs (stm 29)) (defBody (stm 29)) (defScope (stm 29)) .none kV20 dc20 pm20 an20 cd20 ct20), sl20⟩) (c20 : PySem.W.codeIn K cd20 "_law_due_part" = true) (k20 : PySem.W.keepIn K (.ref a20) = true)
    {od21 an21 : Option Addr} {sl21 : Array (Option Value)} {oc21 kV21 dc21 pm21 cd21 ct21 : Value} {a21 : Addr} (n21 : PySem.W.nsIn K mainGlobals "_law_is_whole_kind" = some (some (.ref a21))) (l21 : K.lookup a21 = some ⟨oc21, od21, .func (PySem.W.fnOf "_law_is_whole_kind" "_law_is_whole_kind" (defArgs (stm 30)) (defBody (stm 30)) (defScope (stm 30)) .none kV21 dc21 pm21 an21 cd21 ct21), sl21⟩) (c21 : PySem.W.codeIn K cd21 "_law_is_whole_kind" = true) (k21 : PySem.W.keepIn K (.ref a21) = true)
    {od22 an22 : Option Addr} {sl22 : Array (Option Value)} {oc22 kV22 dc22 pm22 cd22 ct22 : Value} {a22 : Addr} (n22 : PySem.W.nsIn K mainGlobals "_law_due_whole" = some (some (.ref a22))) (l22 : K.lookup a22 = some ⟨oc22, od22, .func (PySem.W.fnOf "_law_due_whole" "_law_due_whole" (defArgs (stm 31)) (defBody (stm 31)) (defScope (stm 31)) .none kV22 dc22 pm22 an22 cd22 ct22), sl22⟩) (c22 : PySem.W.codeIn K cd22 "_law_due_whole" = true) (k22 : PySem.W.keepIn K (.ref a22) = true)
    {od23 an23 : Option Addr} {sl23 : Array (Option Value)} {oc23 kV23 dc23 pm23 cd23 ct23 : Value} {a23 : Addr} (n23 : PySem.W.nsIn K mainGlobals "_law_due" = some (some (.ref a23))) (l23 : K.lookup a23 = some ⟨oc23, od23, .func (PySem.W.fnOf "_law_due" "_law_due" (defArgs (stm 32)) (defBody (stm 32)) (defScope (stm 32)) .none kV23 dc23 pm23 an23 cd23 ct23), sl23⟩) (c23 : PySem.W.codeIn K cd23 "_law_due" = true) (k23 : PySem.W.keepIn K (.ref a23) = true)
    {od24 an24 : Option Addr} {sl24 : Array (Option Value)} {oc24 kV24 dc24 pm24 cd24 ct24 : Value} {a24 : Addr} (n24 : PySem.W.nsIn K mainGlobals "_law_truly" = some (some (.ref a24))) (l24 : K.lookup a24 = some ⟨oc24, od24, .func (PySem.W.fnOf "_law_truly" "_law_truly" (defArgs (stm 33)) (defBody (stm 33)) (defScope (stm 33)) .none kV24 dc24 pm24 an24 cd24 ct24), sl24⟩) (c24 : PySem.W.codeIn K cd24 "_law_truly" = true) (k24 : PySem.W.keepIn K (.ref a24) = true)
    {od25 an25 : Option Addr} {sl25 : Array (Option Value)} {oc25 kV25 dc25 pm25 cd25 ct25 : Value} {a25 : Addr} (n25 : PySem.W.nsIn K mainGlobals "law" = some (some (.ref a25))) (l25 : K.lookup a25 = some ⟨oc25, od25, .func (PySem.W.fnOf "law" "law" (defArgs (stm 34)) (defBody (stm 34)) (defScope (stm 34)) .none kV25 dc25 pm25 an25 cd25 ct25), sl25⟩) (c25 : PySem.W.codeIn K cd25 "law" = true) (k25 : PySem.W.keepIn K (.ref a25) = true)
    {g0 : Addr} {gd0 : Option Addr} {gn0 : Nat} {gs0 : Array (Option Value)} {u0_0 : Tok} (gx0 : PySem.W.nsIn K mainGlobals "NUM" = some (some (.ref g0))) (gl0 : K.lookup g0 = some ⟨.type "tuple", gd0, .seq #[.str "num" u0_0] gn0, gs0⟩)
    {g1 : Addr} {gd1 : Option Addr} {gn1 : Nat} {gs1 : Array (Option Value)} {u1_0 : Tok} (gx1 : PySem.W.nsIn K mainGlobals "TRUTH" = some (some (.ref g1))) (gl1 : K.lookup g1 = some ⟨.type "tuple", gd1, .seq #[.str "truth" u1_0] gn1, gs1⟩)
    {gt2 : Tok} (gx2 : PySem.W.nsIn K mainGlobals "MOST_NUMBERS" = some (some (.int (6) gt2)))
    {gt3 : Tok} (gx3 : PySem.W.nsIn K mainGlobals "MOST_FIELDS" = some (some (.int (4) gt3)))
    {g4 : Addr} {gd4 : Option Addr} {gn4 : Nat} {gs4 : Array (Option Value)} {u4_0 u4_1 u4_2 u4_3 u4_4 u4_5 u4_6 u4_7 u4_8 u4_9 u4_10 u4_11 : Tok} (gx4 : PySem.W.nsIn K mainGlobals "PURE" = some (some (.ref g4))) (gl4 : K.lookup g4 = some ⟨.type "tuple", gd4, .seq #[.str "copy" u4_0, .str "neg" u4_1, .str "add" u4_2, .str "sub" u4_3, .str "less" u4_4, .str "same" u4_5, .str "and" u4_6, .str "or" u4_7, .str "not" u4_8, .str "make" u4_9, .str "get" u4_10, .str "put" u4_11] gn4, gs4⟩)
    {g5 : Addr} {gd5 : Option Addr} {gn5 : Nat} {gs5 : Array (Option Value)} {u5_0 u5_1 u5_2 u5_3 u5_4 : Tok} (gx5 : PySem.W.nsIn K mainGlobals "RISKY" = some (some (.ref g5))) (gl5 : K.lookup g5 = some ⟨.type "tuple", gd5, .seq #[.str "mul" u5_0, .str "div" u5_1, .str "mod" u5_2, .str "pick" u5_3, .str "lay" u5_4] gn5, gs5⟩)
    (z0 : PySem.W.nsIn K mainGlobals "all" = some none)
    (z1 : PySem.W.nsIn K mainGlobals "bool" = some none)
    (z2 : PySem.W.nsIn K mainGlobals "int" = some none)
    (z3 : PySem.W.nsIn K mainGlobals "isinstance" = some none)
    (z4 : PySem.W.nsIn K mainGlobals "len" = some none)
    (z5 : PySem.W.nsIn K mainGlobals "list" = some none)
    (z6 : PySem.W.nsIn K mainGlobals "max" = some none)
    (z7 : PySem.W.nsIn K mainGlobals "min" = some none)
    (z8 : PySem.W.nsIn K mainGlobals "range" = some none)
    (z9 : PySem.W.nsIn K mainGlobals "reversed" = some none)
    (z10 : PySem.W.nsIn K mainGlobals "tuple" = some none) :
    ∃ fd : FuncData, (∀ (s : Shared) (v : Value), BindsTo s fd ⟨[v], []⟩ [("_law_script", v)]) ∧ ∀ base : Heap, K.In base → base.Ns mainGlobals mg → FnOk l.prog w K mg base CX0 60 fa fd ["_law_script"] (spLaw K) := by
  have e := hfa.symm.trans (PySem.W.mg_of X Gn n25)
  cases e
  have F0 := fun_mk (st := stm 5) l0 c0 k0
  have b0 := F0.binds (ps := f0.ps) fun _ _ _ _ _ _ us hl => match us, hl with | [_], _ => rfl
  have F1 := fun_mk (st := stm 6) l1 c1 k1
  have b1 := F1.binds (ps := f1.ps) fun _ _ _ _ _ _ us hl => match us, hl with | [_], _ => rfl
  have F2 := fun_mk (st := stm 7) l2 c2 k2
  have b2 := F2.binds (ps := f2.ps) fun _ _ _ _ _ _ us hl => match us, hl with | [_], _ => rfl
  have F3 := fun_mk (st := stm 8) l3 c3 k3
  have b3 := F3.binds (ps := f3.ps) fun _ _ _ _ _ _ us hl => match us, hl with | [_], _ => rfl
  have F4 := fun_mk (st := stm 12) l4 c4 k4
  have b4 := F4.binds (ps := f4.ps) fun _ _ _ _ _ _ us hl => match us, hl with | [_], _ => rfl
  have F5 := fun_mk (st := stm 13) l5 c5 k5
  have b5 := F5.binds (ps := f5.ps) fun _ _ _ _ _ _ us hl => match us, hl with | [_], _ => rfl
  have F6 := fun_mk (st := stm 14) l6 c6 k6
  have b6 := F6.binds (ps := f6.ps) fun _ _ _ _ _ _ us hl => match us, hl with | [_, _], _ => rfl
  have F7 := fun_mk (st := stm 15) l7 c7 k7
  have b7 := F7.binds (ps := f7.ps) fun _ _ _ _ _ _ us hl => match us, hl with | [_, _, _], _ => rfl
  have F8 := fun_mk (st := stm 16) l8 c8 k8
  have b8 := F8.binds (ps := f8.ps) fun _ _ _ _ _ _ us hl => match us, hl with | [_, _], _ => rfl
  have F9 := fun_mk (st := stm 17) l9 c9 k9
  have b9 := F9.binds (ps := f9.ps) fun _ _ _ _ _ _ us hl => match us, hl with | [_], _ => rfl
  have F10 := fun_mk (st := stm 18) l10 c10 k10
  have b10 := F10.binds (ps := f10.ps) fun _ _ _ _ _ _ us hl => match us, hl with | [_, _, _], _ => rfl
  have F11 := fun_mk (st := stm 20) l11 c11 k11
  have b11 := F11.binds (ps := f11.ps) fun _ _ _ _ _ _ us hl => match us, hl with | [_, _], _ => rfl
  have F12 := fun_mk (st := stm 21) l12 c12 k12
  have b12 := F12.binds (ps := f12.ps) fun _ _ _ _ _ _ us hl => match us, hl with | [_, _], _ => rfl
  have F13 := fun_mk (st := stm 22) l13 c13 k13
  have b13 := F13.binds (ps := f13.ps) fun _ _ _ _ _ _ us hl => match us, hl with | [_, _], _ => rfl
  have F14 := fun_mk (st := stm 23) l14 c14 k14
  have b14 := F14.binds (ps := f14.ps) fun _ _ _ _ _ _ us hl => match us, hl with | [_], _ => rfl
  have F15 := fun_mk (st := stm 24) l15 c15 k15
  have b15 := F15.binds (ps := f15.ps) fun _ _ _ _ _ _ us hl => match us, hl with | [_], _ => rfl
  have F16 := fun_mk (st := stm 25) l16 c16 k16
  have b16 := F16.binds (ps := f16.ps) fun _ _ _ _ _ _ us hl => match us, hl with | [_], _ => rfl
  have F17 := fun_mk (st := stm 26) l17 c17 k17
  have b17 := F17.binds (ps := f17.ps) fun _ _ _ _ _ _ us hl => match us, hl with | [_], _ => rfl
  have F18 := fun_mk (st := stm 27) l18 c18 k18
  have b18 := F18.binds (ps := f18.ps) fun _ _ _ _ _ _ us hl => match us, hl with | [_, _], _ => rfl
  have F19 := fun_mk (st := stm 28) l19 c19 k19
  have b19 := F19.binds (ps := f19.ps) fun _ _ _ _ _ _ us hl => match us, hl with | [_, _], _ => rfl
  have F20 := fun_mk (st := stm 29) l20 c20 k20
  have b20 := F20.binds (ps := f20.ps) fun _ _ _ _ _ _ us hl => match us, hl with | [_, _], _ => rfl
  have F21 := fun_mk (st := stm 30) l21 c21 k21
  have b21 := F21.binds (ps := f21.ps) fun _ _ _ _ _ _ us hl => match us, hl with | [_], _ => rfl
  have F22 := fun_mk (st := stm 31) l22 c22 k22
  have b22 := F22.binds (ps := f22.ps) fun _ _ _ _ _ _ us hl => match us, hl with | [_, _, _], _ => rfl
  have F23 := fun_mk (st := stm 32) l23 c23 k23
  have b23 := F23.binds (ps := f23.ps) fun _ _ _ _ _ _ us hl => match us, hl with | [_, _, _], _ => rfl
  have F24 := fun_mk (st := stm 33) l24 c24 k24
  have b24 := F24.binds (ps := f24.ps) fun _ _ _ _ _ _ us hl => match us, hl with | [_, _], _ => rfl
  have F25 := fun_mk (st := stm 34) l25 c25 k25
  have b25 := F25.binds (ps := f25.ps) fun _ _ _ _ _ _ us hl => match us, hl with | [_], _ => rfl
  have O : TopOK K mg t0 G := {
    fns := by
      intro i fi hi
      have hm : fi ∈ G.fns := List.mem_of_getElem? hi
      simp only [G, List.mem_cons, List.not_mem_nil, or_false] at hm
      rcases hm with rfl | rfl | rfl | rfl | rfl | rfl | rfl | rfl | rfl | rfl | rfl | rfl | rfl | rfl | rfl | rfl | rfl | rfl | rfl | rfl | rfl | rfl | rfl | rfl | rfl | rfl
      · exact ⟨_, _, _, PySem.W.mg_of X Gn n0, F0, b0, My.c0⟩
      · exact ⟨_, _, _, PySem.W.mg_of X Gn n1, F1, b1, My.c1⟩
      · exact ⟨_, _, _, PySem.W.mg_of X Gn n2, F2, b2, My.c2⟩
      · exact ⟨_, _, _, PySem.W.mg_of X Gn n3, F3, b3, My.c3⟩
      · exact ⟨_, _, _, PySem.W.mg_of X Gn n4, F4, b4, My.c4⟩
      · exact ⟨_, _, _, PySem.W.mg_of X Gn n5, F5, b5, My.c5⟩
      · exact ⟨_, _, _, PySem.W.mg_of X Gn n6, F6, b6, My.c6⟩
      · exact ⟨_, _, _, PySem.W.mg_of X Gn n7, F7, b7, My.c7⟩
      · exact ⟨_, _, _, PySem.W.mg_of X Gn n8, F8, b8, My.c8⟩
      · exact ⟨_, _, _, PySem.W.mg_of X Gn n9, F9, b9, My.c9⟩
      · exact ⟨_, _, _, PySem.W.mg_of X Gn n10, F10, b10, My.c10⟩
      · exact ⟨_, _, _, PySem.W.mg_of X Gn n11, F11, b11, My.c11⟩
      · exact ⟨_, _, _, PySem.W.mg_of X Gn n12, F12, b12, My.c12⟩
      · exact ⟨_, _, _, PySem.W.mg_of X Gn n13, F13, b13, My.c13⟩
      · exact ⟨_, _, _, PySem.W.mg_of X Gn n14, F14, b14, My.c14⟩
      · exact ⟨_, _, _, PySem.W.mg_of X Gn n15, F15, b15, My.c15⟩
      · exact ⟨_, _, _, PySem.W.mg_of X Gn n16, F16, b16, My.c16⟩
      · exact ⟨_, _, _, PySem.W.mg_of X Gn n17, F17, b17, My.c17⟩
      · exact ⟨_, _, _, PySem.W.mg_of X Gn n18, F18, b18, My.c18⟩
      · exact ⟨_, _, _, PySem.W.mg_of X Gn n19, F19, b19, My.c19⟩
      · exact ⟨_, _, _, PySem.W.mg_of X Gn n20, F20, b20, My.c20⟩
      · exact ⟨_, _, _, PySem.W.mg_of X Gn n21, F21, b21, My.c21⟩
      · exact ⟨_, _, _, PySem.W.mg_of X Gn n22, F22, b22, My.c22⟩
      · exact ⟨_, _, _, PySem.W.mg_of X Gn n23, F23, b23, My.c23⟩
      · exact ⟨_, _, _, PySem.W.mg_of X Gn n24, F24, b24, My.c24⟩
      · exact ⟨_, _, _, PySem.W.mg_of X Gn n25, F25, b25, My.c25⟩
    nms := rfl
    gv := by
      intro g x hx
      have hm : g < 6 := (List.getElem?_eq_some_iff.mp hx).1
      match g, hx with
      | 0, hx => cases hx; exact ⟨_, .ref g0, PySem.W.mg_of X Gn gx0, rfl, fun _ _ => .tup (vs := [.str "num"]) (.inr ⟨_, _, _, gl0, rfl, rfl, by rw [sizeLine_eq]; show 1 ≤ 16777216; decide, (.cons ⟨_, rfl⟩ .nil)⟩) (.cons (.str _) .nil)⟩
      | 1, hx => cases hx; exact ⟨_, .ref g1, PySem.W.mg_of X Gn gx1, rfl, fun _ _ => .tup (vs := [.str "truth"]) (.inr ⟨_, _, _, gl1, rfl, rfl, by rw [sizeLine_eq]; show 1 ≤ 16777216; decide, (.cons ⟨_, rfl⟩ .nil)⟩) (.cons (.str _) .nil)⟩
      | 2, hx => cases hx; exact ⟨_, .int (6), PySem.W.mg_of X Gn gx2, ⟨_, rfl⟩, fun _ _ => .int _⟩
      | 3, hx => cases hx; exact ⟨_, .int (4), PySem.W.mg_of X Gn gx3, ⟨_, rfl⟩, fun _ _ => .int _⟩
      | 4, hx => cases hx; exact ⟨_, .ref g4, PySem.W.mg_of X Gn gx4, rfl, fun _ _ => .tup (vs := [.str "copy", .str "neg", .str "add", .str "sub", .str "less", .str "same", .str "and", .str "or", .str "not", .str "make", .str "get", .str "put"]) (.inr ⟨_, _, _, gl4, rfl, rfl, by rw [sizeLine_eq]; show 12 ≤ 16777216; decide, (.cons ⟨_, rfl⟩ (.cons ⟨_, rfl⟩ (.cons ⟨_, rfl⟩ (.cons ⟨_, rfl⟩ (.cons ⟨_, rfl⟩ (.cons ⟨_, rfl⟩ (.cons ⟨_, rfl⟩ (.cons ⟨_, rfl⟩ (.cons ⟨_, rfl⟩ (.cons ⟨_, rfl⟩ (.cons ⟨_, rfl⟩ (.cons ⟨_, rfl⟩ .nil))))))))))))⟩) (.cons (.str _) (.cons (.str _) (.cons (.str _) (.cons (.str _) (.cons (.str _) (.cons (.str _) (.cons (.str _) (.cons (.str _) (.cons (.str _) (.cons (.str _) (.cons (.str _) (.cons (.str _) .nil))))))))))))⟩
      | 5, hx => cases hx; exact ⟨_, .ref g5, PySem.W.mg_of X Gn gx5, rfl, fun _ _ => .tup (vs := [.str "mul", .str "div", .str "mod", .str "pick", .str "lay"]) (.inr ⟨_, _, _, gl5, rfl, rfl, by rw [sizeLine_eq]; show 5 ≤ 16777216; decide, (.cons ⟨_, rfl⟩ (.cons ⟨_, rfl⟩ (.cons ⟨_, rfl⟩ (.cons ⟨_, rfl⟩ (.cons ⟨_, rfl⟩ .nil)))))⟩) (.cons (.str _) (.cons (.str _) (.cons (.str _) (.cons (.str _) (.cons (.str _) .nil)))))⟩
      | g + 6, hx => exact absurd hm (by omega)
    bl := by
      intro x hx
      simp only [t0, List.mem_cons, List.not_mem_nil, or_false] at hx
      rcases hx with rfl | rfl | rfl | rfl | rfl | rfl | rfl | rfl | rfl | rfl | rfl
      · exact PySem.W.mg_none_of X Gn z0
      · exact PySem.W.mg_none_of X Gn z1
      · exact PySem.W.mg_none_of X Gn z2
      · exact PySem.W.mg_none_of X Gn z3
      · exact PySem.W.mg_none_of X Gn z4
      · exact PySem.W.mg_none_of X Gn z5
      · exact PySem.W.mg_none_of X Gn z6
      · exact PySem.W.mg_none_of X Gn z7
      · exact PySem.W.mg_none_of X Gn z8
      · exact PySem.W.mg_none_of X Gn z9
      · exact PySem.W.mg_none_of X Gn z10
    }
  exact ⟨_, fun s v => .of_eq rfl, fun base _ _ => law_fn (W := ⟨l.prog, w, mg, base, ⟨K, fun _ => 0, fun _ => ""⟩⟩) (t := t0) (G := G) (n := 60) (i := 25) (fi := f25) O rfl F25 My.c25 law_true⟩
end My
open PySem PySem.W PyProof.Rows in
set_option maxRecDepth 100000 in
set_option maxHeartbeats 0 in
theorem PySem.Challenge.cw_eachstepsame_k03_what_operations_fit_holds : PySem.Challenge.rw_eachstepsame_k03_what_operations_fit.Holds := by
  w_on; o_law; k_head; (case hw => w_witness2)
  k_fill
  refine Mi.walk (l := PySem.Challenge.rw_eachstepsame_k03_what_operations_fit) (n := 60) (x := "_law_script") rfl rfl ⟨rfl, by decide, by decide⟩ (fun w h Y => PySem.W.kIn_of Y) ?F
  case F =>
    intro w mg fa h KX G hmg
    refine' My.all_mk KX G hmg ?n0 ?l0 ?c0 ?k0 ?n1 ?l1 ?c1 ?k1 ?n2 ?l2 ?c2 ?k2 ?n3 ?l3 ?c3 ?k3 ?n4 ?l4 ?c4 ?k4 ?n5 ?l5 ?c5 ?k5 ?n6 ?l6 ?c6 ?k6 ?n7 ?l7 ?c7 ?k7 ?n8 ?l8 ?c8 ?k8 ?n9 ?l9 ?c9 ?k9 ?n10 ?l10 ?c10 ?k10 ?n11 ?l11 ?c11 ?k11 ?n12 ?l12 ?c12 ?k12 ?n13 ?l13 ?c13 ?k13 ?n14 ?l14 ?c14 ?k14 ?n15 ?l15 ?c15 ?k15 ?n16 ?l16 ?c16 ?k16 ?n17 ?l17 ?c17 ?k17 ?n18 ?l18 ?c18 ?k18 ?n19 ?l19 ?c19 ?k19 ?n20 ?l20 ?c20 ?k20 ?n21 ?l21 ?c21 ?k21 ?n22 ?l22 ?c22 ?k22 ?n23 ?l23 ?c23 ?k23 ?n24 ?l24 ?c24 ?k24 ?n25 ?l25 ?c25 ?k25 ?gx0 ?gl0 ?gx1 ?gl1 ?gx2 ?gx3 ?gx4 ?gl4 ?gx5 ?gl5 ?z0 ?z1 ?z2 ?z3 ?z4 ?z5 ?z6 ?z7 ?z8 ?z9 ?z10
    (case n0 => k_is)
    (case l0 => k_is)
    (case c0 => k_is)
    (case k0 => k_is)
    (case n1 => k_is)
    (case l1 => k_is)
    (case c1 => k_is)
    (case k1 => k_is)
    (case n2 => k_is)
    (case l2 => k_is)
    (case c2 => k_is)
    (case k2 => k_is)
    (case n3 => k_is)
    (case l3 => k_is)
    (case c3 => k_is)
    (case k3 => k_is)
    (case n4 => k_is)
    (case l4 => k_is)
    (case c4 => k_is)
    (case k4 => k_is)
    (case n5 => k_is)
    (case l5 => k_is)
    (case c5 => k_is)
    (case k5 => k_is)
    (case n6 => k_is)
    (case l6 => k_is)
    (case c6 => k_is)
    (case k6 => k_is)
    (case n7 => k_is)
    (case l7 => k_is)
    (case c7 => k_is)
    (case k7 => k_is)
    (case n8 => k_is)
    (case l8 => k_is)
    (case c8 => k_is)
    (case k8 => k_is)
    (case n9 => k_is)
    (case l9 => k_is)
    (case c9 => k_is)
    (case k9 => k_is)
    (case n10 => k_is)
    (case l10 => k_is)
    (case c10 => k_is)
    (case k10 => k_is)
    (case n11 => k_is)
    (case l11 => k_is)
    (case c11 => k_is)
    (case k11 => k_is)
    (case n12 => k_is)
    (case l12 => k_is)
    (case c12 => k_is)
    (case k12 => k_is)
    (case n13 => k_is)
    (case l13 => k_is)
    (case c13 => k_is)
    (case k13 => k_is)
    (case n14 => k_is)
    (case l14 => k_is)
    (case c14 => k_is)
    (case k14 => k_is)
    (case n15 => k_is)
    (case l15 => k_is)
    (case c15 => k_is)
    (case k15 => k_is)
    (case n16 => k_is)
    (case l16 => k_is)
    (case c16 => k_is)
    (case k16 => k_is)
    (case n17 => k_is)
    (case l17 => k_is)
    (case c17 => k_is)
    (case k17 => k_is)
    (case n18 => k_is)
    (case l18 => k_is)
    (case c18 => k_is)
    (case k18 => k_is)
    (case n19 => k_is)
    (case l19 => k_is)
    (case c19 => k_is)
    (case k19 => k_is)
    (case n20 => k_is)
    (case l20 => k_is)
    (case c20 => k_is)
    (case k20 => k_is)
    (case n21 => k_is)
    (case l21 => k_is)
    (case c21 => k_is)
    (case k21 => k_is)
    (case n22 => k_is)
    (case l22 => k_is)
    (case c22 => k_is)
    (case k22 => k_is)
    (case n23 => k_is)
    (case l23 => k_is)
    (case c23 => k_is)
    (case k23 => k_is)
    (case n24 => k_is)
    (case l24 => k_is)
    (case c24 => k_is)
    (case k24 => k_is)
    (case n25 => k_is)
    (case l25 => k_is)
    (case c25 => k_is)
    (case k25 => k_is)
    (case gx0 => k_is)
    (case gl0 => k_is)
    (case gx1 => k_is)
    (case gl1 => k_is)
    (case gx2 => k_is)
    (case gx3 => k_is)
    (case gx4 => k_is)
    (case gl4 => k_is)
    (case gx5 => k_is)
    (case gl5 => k_is)
    (case z0 => k_is)
    (case z1 => k_is)
    (case z2 => k_is)
    (case z3 => k_is)
    (case z4 => k_is)
    (case z5 => k_is)
    (case z6 => k_is)
    (case z7 => k_is)
    (case z8 => k_is)
    (case z9 => k_is)
    (case z10 => k_is)
