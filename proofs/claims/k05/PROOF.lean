import PyProof.Rows.All
import Wide.All
import OpenK.AllK
import Wide.FinOn
import HandS.ForMost
import HandS.ForExc
import KE.KEqNest
import KE.KEqDict
import HandS.More
import HandS.IsInst
import HandS.ExcOwn
import HandS.Words
import HandS.TryMany
import HandS.ExcIs
import HandS.Ends
import PySem.Challenge.RW_kindsure_k05_records_and_choices_reckone
set_option Elab.async false
set_option linter.all false
set_option maxRecDepth 100000
set_option maxHeartbeats 4000000
set_option autoImplicit false
/-! A small language of values, its reckoner, and the look that a text of Python is one of its texts. -/
namespace Ev
open PySem

/-- plain data -/
inductive D where
  | non | bl (b : Bool) | int (i : Int) | str (x : Str)
  | tup (xs : List D) | lst (xs : List D) | dct (kvs : List (Str × D))
  deriving Inhabited

/-- how a value is held: as data, as a list or dict made anew that nobody else holds, or lent -/
inductive RV where
  | val (d : D) | own (d : D) | bor (d : D)
def RV.d : RV → D
  | .val d => d | .own d => d | .bor d => d
inductive Cel where
  | no | val (d : D) | own (d : D) | lent (d : D) | bor (d : D) | err (c : Str)
  deriving Inhabited
abbrev En := List Cel

inductive Rs (a : Type) where
  | ok (x : a) | exc (c : Str) | stuck
def Rs.bind {a b : Type} (x : Rs a) (f : a → Rs b) : Rs b :=
  match x with
  | .ok x => f x
  | .exc c => .exc c
  | .stuck => .stuck
/-- an exception is none of ours -/
def Rs.noX {a : Type} (x : Rs a) : Rs a :=
  match x with
  | .exc _ => .stuck
  | y => y
theorem noX_ok {a : Type} (x : a) : (Rs.ok x).noX = .ok x := rfl
theorem bind_ok {a b : Type} (x : a) (f : a → Rs b) : (Rs.ok x).bind f = f x := rfl
theorem bind_exc {a b : Type} (c : Str) (f : a → Rs b) : (Rs.exc c : Rs a).bind f = .exc c := rfl
theorem bind_stuck {a b : Type} (f : a → Rs b) : (Rs.stuck : Rs a).bind f = .stuck := rfl

inductive Out where
  | nx (e : En) | ret (r : RV) | exc (c : Str) (e : En) | stuck
def Rs.out {a : Type} (x : Rs a) (e : En) (f : a → Out) : Out :=
  match x with
  | .ok x => f x
  | .exc c => .exc c e
  | .stuck => .stuck

inductive Bop where
  | add | sub | mul | fdiv | mod
  deriving DecidableEq
inductive Cop where
  | eq | ne | lt | le | gt | ge | isN | notN | inn | notin
  deriving DecidableEq
inductive Bfn where
  | len | abs | max2 | min2 | max1 | sum | all | repr | int1 | list1 | dict1
  deriving DecidableEq
inductive Mth where
  | join | get1 | get2 | count | index | sindex
  deriving DecidableEq
inductive Ty where
  | int | bool | str | tuple | dict | list
  deriving DecidableEq

mutual
inductive X where
  | cnon | cbl (b : Bool) | cint (i : Int) | cstr (x : Str)
  | var (i : Nat)
  | tup (es : Xs) | lst (es : Xs) | dct (es : Xs)
  | bin (o : Bop) (a b : X)
  | neg (a : X)
  | cmp (o : Cop) (a b : X)
  | and (es : Xs) | or (es : Xs) | not (a : X)
  | ife (t a b : X)
  | call (f : Nat) (es : Xs)
  | bfn (f : Bfn) (es : Xs)
  | isi (a : X) (ts : List Ty)
  | sub (a i : X)
  | slc (a lo hi : X)
  | mth (m : Mth) (a : X) (es : Xs)
  | litems (a : X)
  | isE (i : Nat) (c : Str)
  | isEs (i : Nat) (cs : List Str)
  | glob (x : Str) (i : Int)
  | comp (elt : X) (tg : List Nat) (it : It) (cond : X)
inductive Xs where
  | nil | cons (e : X) (r : Xs)
inductive It where
  | ex (e : X) | range (e : X) | enum (e : X) | zip (a b : X) | rev (e : X)
end

mutual
inductive S where
  | asg (i : Nat) (e : X)
  | asg2 (i j : Nat) (a b : X)
  | setI (i : Nat) (k v : X)
  | app (i : Nat) (e : X)
  | popk (i : Nat) (k : X)
  | expr (e : X)
  | ifs (t : X) (a b : Ss)
  | forr (tg : List Nat) (it : It) (b : Ss)
  | ret (e : X)
  | rais (c : Str)
  | tryy (b : S) (hs : Hs)
  | tryAs (b : S) (c : Str) (i : Nat) (h : Ss)
inductive Ss where
  | nil | cons (s : S) (r : Ss)
  | frz (i : Nat) (r : Ss)
inductive Hs where
  | nil | cons (c : Str) (b : Ss) (r : Hs)
end

def lim : Nat := 16777216

/-! ### what the words do with data -/
mutual
def D.eqv : D → D → Bool
  | .non, .non => true
  | .bl a, .bl b => a == b
  | .bl a, .int b => (if a then 1 else 0) == b
  | .int a, .bl b => a == (if b then 1 else 0)
  | .int a, .int b => a == b
  | .str a, .str b => decide (a = b)
  | .tup xs, .tup ys => eqvL xs ys
  | .lst xs, .lst ys => eqvL xs ys
  | .dct a, .dct b => a.length == b.length && eqvD a b
  | _, _ => false
def D.eqvL : List D → List D → Bool
  | [], [] => true
  | x :: xs, y :: ys => D.eqv x y && D.eqvL xs ys
  | _, _ => false
def D.eqvD : List (Str × D) → List (Str × D) → Bool
  | [], _ => true
  | (k, v) :: r, b => (match b.find? (fun kv => decide (kv.1 = k)) with
    | some kv => D.eqv v kv.2
    | none => false) && D.eqvD r b
end

mutual
/-- how deep it is nested -/
def D.dep : D → Nat
  | .tup xs => depL xs + 1
  | .lst xs => depL xs + 1
  | .dct kvs => depD kvs + 1
  | _ => 0
def D.depL : List D → Nat
  | [] => 0
  | x :: xs => max x.dep (D.depL xs)
def D.depD : List (Str × D) → Nat
  | [] => 0
  | (_, v) :: r => max v.dep (D.depD r)
end

def look (kvs : List (Str × D)) (k : Str) : Option D := (kvs.find? fun kv => decide (kv.1 = k)).map (·.2)
def has (kvs : List (Str × D)) (k : Str) : Bool := kvs.any fun kv => decide (kv.1 = k)
def put (kvs : List (Str × D)) (k : Str) (v : D) : List (Str × D) :=
  if has kvs k = true then kvs.map (fun kv => if kv.1 = k then (kv.1, v) else kv) else kvs ++ [(k, v)]
def drop (kvs : List (Str × D)) (k : Str) : List (Str × D) := kvs.filter fun kv => decide (kv.1 ≠ k)
def merge (kvs more : List (Str × D)) : List (Str × D) := more.foldl (fun acc kv => put acc kv.1 kv.2) kvs

/-- plain things, whose likeness is asked item by item -/
def D.flat : D → Bool
  | .non => true | .bl _ => true | .int _ => true | .str _ => true | _ => false

mutual
def D.py : D → PyData
  | .non => .none
  | .bl b => .bool b
  | .int i => .int i
  | .str x => .str x
  | .tup xs => .tuple (pyL xs)
  | .lst xs => .list (pyL xs)
  | .dct kvs => .dict (pyD kvs)
def D.pyL : List D → List PyData
  | [] => []
  | x :: xs => x.py :: D.pyL xs
def D.pyD : List (Str × D) → List (PyData × PyData)
  | [] => []
  | (k, v) :: r => (.str k, v.py) :: D.pyD r
end
def D.shown (d : D) : Str := d.py.shown
def D.showOk (d : D) : Bool := d.py.showable && decide (d.py.shown.length ≤ lim) && decide (d.py.depth ≤ 150)

def D.isTy : D → Ty → Bool
  | .bl _, .bool => true
  | .bl _, .int => true
  | .int _, .int => true
  | .str _, .str => true
  | .tup _, .tuple => true
  | .lst _, .list => true
  | .dct _, .dict => true
  | _, _ => false

def asBl : RV → Rs Bool
  | .val (.bl b) => .ok b
  | _ => .stuck
/-- as data that may be held elsewhere -/
def asVal : RV → Rs D
  | .val d => .ok d
  | .own d => .ok d
  | .bor _ => .stuck
def asVals : List RV → Rs (List D)
  | [] => .ok []
  | r :: rs => (asVal r).bind fun d => (asVals rs).bind fun ds => .ok (d :: ds)
def pairUp : List D → Rs (List (Str × D))
  | [] => .ok []
  | .str k :: v :: r => (pairUp r).bind fun l => .ok ((k, v) :: l)
  | _ => .stuck

def smallI (i : Int) : Bool := decide (-(2 ^ 64) < i) && decide (i < 2 ^ 64)
def binop : Bop → D → D → Rs RV
  | .add, .int i, .int j => .ok (.val (.int (i + j)))
  | .add, .str a, .str b => if a.length + b.length ≤ lim then .ok (.val (.str (a ++ b))) else .stuck
  | .add, .lst a, .lst b => if a.length + b.length ≤ lim then .ok (.own (.lst (a ++ b))) else .stuck
  | .sub, .int i, .int j => .ok (.val (.int (i - j)))
  | .mul, .int i, .int j => if smallI i || smallI j then .ok (.val (.int (i * j))) else .stuck
  | .fdiv, .int i, .int j => if j ≠ 0 ∧ smallI j = true then .ok (.val (.int (i.fdiv j))) else .stuck
  | .mod, .int i, .int j => if j ≠ 0 then .ok (.val (.int (i.fmod j))) else .stuck
  | _, _, _ => .stuck

def eqOk (a b : D) : Bool := decide (min a.dep b.dep ≤ 150)
/-- what is asked by != -/
def neOk : D → D → Bool
  | .lst xs, .lst ys => decide (xs.length ≠ ys.length) || (xs.all D.flat && ys.all D.flat)
  | .dct a, .dct b => a.isEmpty || b.isEmpty
  | .dct _, _ => false
  | _, .dct _ => false
  | _, _ => true
def cmpop : Cop → D → D → Rs RV
  | .eq, a, b => if eqOk a b = true then .ok (.val (.bl (D.eqv a b))) else .stuck
  | .ne, a, b => if eqOk a b = true ∧ neOk a b = true then .ok (.val (.bl (!D.eqv a b))) else .stuck
  | .lt, .int i, .int j => .ok (.val (.bl (decide (i < j))))
  | .le, .int i, .int j => .ok (.val (.bl (decide (i ≤ j))))
  | .gt, .int i, .int j => .ok (.val (.bl (decide (j < i))))
  | .ge, .int i, .int j => .ok (.val (.bl (decide (j ≤ i))))
  | .isN, .non, .non => .ok (.val (.bl true))
  | .isN, _, .non => .ok (.val (.bl false))
  | .notN, .non, .non => .ok (.val (.bl false))
  | .notN, _, .non => .ok (.val (.bl true))
  | .inn, .str k, .dct kvs => .ok (.val (.bl (has kvs k)))
  | .notin, .str k, .dct kvs => .ok (.val (.bl (!has kvs k)))
  | .inn, a, .lst xs => if a.flat && xs.all D.flat then .ok (.val (.bl (xs.any fun y => D.eqv y a))) else .stuck
  | .notin, a, .lst xs => if a.flat && xs.all D.flat then .ok (.val (.bl (!xs.any fun y => D.eqv y a))) else .stuck
  | .inn, a, .tup xs => if a.flat && xs.all D.flat then .ok (.val (.bl (xs.any fun y => D.eqv y a))) else .stuck
  | .notin, a, .tup xs => if a.flat && xs.all D.flat then .ok (.val (.bl (!xs.any fun y => D.eqv y a))) else .stuck
  | _, _, _ => .stuck

def intsOf : List D → Rs (List Int)
  | [] => .ok []
  | .int i :: r => (intsOf r).bind fun l => .ok (i :: l)
  | _ => .stuck
def boolsOf : List D → Rs (List Bool)
  | [] => .ok []
  | .bl i :: r => (boolsOf r).bind fun l => .ok (i :: l)
  | _ => .stuck
def strsOf : List D → Rs (List Str)
  | [] => .ok []
  | .str i :: r => (strsOf r).bind fun l => .ok (i :: l)
  | _ => .stuck
/-- a list of pairsOf of a text and a thing -/
def pairsOf : List D → Rs (List (Str × D))
  | [] => .ok []
  | .tup [.str k, v] :: r => (pairsOf r).bind fun l => .ok ((k, v) :: l)
  | _ => .stuck
def maxL : List Int → Int
  | [] => 0
  | [i] => i
  | i :: r => max i (maxL r)

def bfnop : Bfn → List D → Rs RV
  | .len, [.lst xs] => if xs.length ≤ lim then .ok (.val (.int xs.length)) else .stuck
  | .len, [.tup xs] => if xs.length ≤ lim then .ok (.val (.int xs.length)) else .stuck
  | .len, [.dct xs] => if xs.length ≤ lim then .ok (.val (.int xs.length)) else .stuck
  | .len, [.str x] => if x.length ≤ lim then .ok (.val (.int x.length)) else .stuck
  | .abs, [.int i] => .ok (.val (.int (if i < 0 then -i else i)))
  | .max2, [.int i, .int j] => .ok (.val (.int (if j > i then j else i)))
  | .min2, [.int i, .int j] => .ok (.val (.int (if j < i then j else i)))
  | .max1, [.lst (x :: xs)] => (intsOf (x :: xs)).bind fun l => .ok (.val (.int (maxL l)))
  | .sum, [.lst xs] => (intsOf xs).bind fun l => .ok (.val (.int l.sum))
  | .all, [.lst xs] => (boolsOf xs).bind fun l => .ok (.val (.bl (l.all id)))
  | .repr, [d] => if d.showOk = true then .ok (.val (.str d.shown)) else .stuck
  | .int1, [.int i] => .ok (.val (.int i))
  | .int1, [.bl b] => .ok (.val (.int (if b then 1 else 0)))
  | .list1, [.dct kvs] => .ok (.own (.lst (kvs.map fun kv => .str kv.1)))
  | .list1, [.lst xs] => .ok (.own (.lst xs))
  | .dict1, [.dct kvs] => .ok (.own (.dct kvs))
  | .dict1, [.lst xs] => if xs.length ≤ lim then (pairsOf xs).bind fun l => .ok (.own (.dct (merge [] l))) else .stuck
  | _, _ => .stuck

def subop : D → D → Rs RV
  | .lst xs, .int i => match L2.atI xs i with | some d => .ok (.val d) | none => .stuck
  | .tup xs, .int i => match L2.atI xs i with | some d => .ok (.val d) | none => .stuck
  | .dct kvs, .str k => match look kvs k with | some d => .ok (.val d) | none => .stuck
  | .str x, .int i => if x.length ≤ lim then match L2.atI x.cps.toList i with | some c => .ok (.val (.str ⟨#[c]⟩)) | none => .stuck else .stuck
  | _, _ => .stuck

def bound (r : RV) : Rs (Option Int) :=
  match r.d with
  | .int i => .ok (some i)
  | _ => .stuck
/-- a store to the place k of what slot i has for its own -/
def setO (e : En) (i : Nat) (k d : D) : Out :=
  match e[i]?, k with
  | some (.own (.dct kvs)), .str s => if kvs.length < lim then .nx (e.set i (.own (.dct (put kvs s d)))) else .stuck
  | some (.own (.lst xs)), .int j => if 0 ≤ j ∧ j < xs.length then .nx (e.set i (.own (.lst (xs.set j.toNat d)))) else .stuck
  | _, _ => .stuck
def isNone : X → Bool
  | .cnon => true
  | _ => false
def cutL (xs : List D) (lo hi : Option Int) : List D := (xs.drop (HT.sIx xs.length 0 lo)).take (HT.sIx xs.length xs.length hi - HT.sIx xs.length 0 lo)
def slcop (d : D) (lo hi : Option Int) : Rs RV :=
  match d with
  | .lst xs => .ok (.own (.lst (cutL xs lo hi)))
  | .tup xs => if HT.sIx xs.length 0 lo = 0 ∧ HT.sIx xs.length xs.length hi = xs.length then .stuck else .ok (.val (.tup (cutL xs lo hi)))
  | .str x => if x.length ≤ lim then .ok (.val (.str (L2.cutS x lo hi))) else .stuck
  | _ => .stuck

def mthOk : Mth → D → Bool
  | .join, .str _ => true
  | .sindex, .str _ => true
  | .get1, .dct _ => true
  | .get2, .dct _ => true
  | .count, .lst _ => true
  | .index, .lst _ => true
  | _, _ => false
def mthArg : Mth → List RV → List RV
  | .join, _ => []
  | _, rs => rs
def joinLen (a : Str) (ys : List Str) : Nat := (ys.map fun y => y.length + a.length).sum
def mthop : Mth → D → List D → Rs RV
  | .join, .str a, [.lst xs] => (strsOf xs).bind fun ys => if joinLen a ys ≤ lim ∧ ys.length ≤ lim then .ok (.val (.str (Str.join a ys))) else .stuck
  | .get1, .dct kvs, [.str k] => .ok (.val ((look kvs k).getD .non))
  | .get2, .dct kvs, [.str k, d] => .ok (.val ((look kvs k).getD d))
  | .count, .lst xs, [.bl b] => (boolsOf xs).bind fun l => .ok (.val (.int (l.count b)))
  | .index, .lst xs, [.bl b] => (boolsOf xs).bind fun l => match l.idxOf? b with | some j => .ok (.val (.int j)) | none => .stuck
  | .sindex, .str x, [.str y] => if y.length = 1 ∧ x.length ≤ lim then match x.cps.toList.idxOf? (y.cps.getD 0 0) with | some j => .ok (.val (.int j)) | none => .stuck else .stuck
  | _, _, _ => .stuck

/-- the targets of a loop are given their values -/
def setT : List Nat → D → En → Rs En
  | [i], d, e => .ok (e.set i (.val d))
  | [i, j], .tup [a, b], e => .ok ((e.set i (.val a)).set j (.val b))
  | _, _, _ => .stuck
def wipeS : List Nat → En → En
  | [], e => e
  | i :: is, e => (wipeS is e).set i .no

def itemsOf (r : RV) : Rs (List D) :=
  match r.d with
  | .lst xs => if xs.length ≤ lim then .ok xs else .stuck
  | .dct kvs => if kvs.length ≤ lim then .ok (kvs.map fun kv => .str kv.1) else .stuck
  | _ => .stuck
def rangeOf : RV → Rs (List D)
  | .val (.int n) => if -(2 ^ 62) ≤ n ∧ n < lim then .ok ((List.range n.toNat).map fun (i : Nat) => D.int i) else .stuck
  | _ => .stuck
def enumFrom (n : Nat) : List D → List D
  | [] => []
  | d :: r => .tup [.int n, d] :: enumFrom (n + 1) r
def enumOf (r : RV) : Rs (List D) :=
  match r.d with
  | .lst xs => if xs.length ≤ lim then .ok (enumFrom 0 xs) else .stuck
  | _ => .stuck
def zipOf (r q : RV) : Rs (List D) :=
  match r.d, q.d with
  | .lst xs, .lst ys => if xs.length = ys.length ∧ xs.length ≤ lim then .ok ((xs.zip ys).map fun p => .tup [p.1, p.2]) else .stuck
  | _, _ => .stuck
def revOf (r : RV) : Rs (List D) :=
  match r.d with
  | .lst xs => if xs.length ≤ lim then .ok xs.reverse else .stuck
  | _ => .stuck
/-- what is walked: a name's list or dict, or data -/
def itR (x : X) (r : RV) : Rs RV :=
  match x with
  | .var _ => .ok r
  | _ => (asVal r).bind fun _ => .ok r
/-- a name whose own list or dict is walked lends it -/
def lend1 : X → En → En
  | .var i, e => match e[i]? with
    | some (.own d) => e.set i (.lent d)
    | _ => e
  | _, e => e
def lendE : It → En → En
  | .ex a, e => lend1 a e
  | .range _, e => e
  | .enum a, e => lend1 a e
  | .zip a b, e => lend1 b (lend1 a e)
  | .rev a, e => lend1 a e
/-- .. and has it back -/
def backE : En → En → En
  | c :: r, d :: s => (match c, d with
    | .own _, .lent x => .own x
    | _, y => y) :: backE r s
  | _, e => e
def Out.back (e : En) : Out → Out
  | .nx e' => .nx (backE e e')
  | .exc c e' => .exc c (backE e e')
  | o => o

def compL (one : D → Rs (Option D)) : List D → Rs (List D)
  | [] => .ok []
  | it :: r => (one it).bind fun o => (compL one r).bind fun l => match o with
    | some d => .ok (d :: l)
    | none => .ok l
def loopF (step : D → En → Out) : List D → En → Out
  | [], e => .nx e
  | it :: r, e => match step it e with
    | .nx e' => loopF step r e'
    | o => o

/-- the classes of errors: which stands below which -/
abbrev Sub := Str → Str → Bool

section
variable (call : Nat → List RV → Rs RV) (sub : Sub)
mutual
def evX (e : En) : X → Rs RV
  | .cnon => .ok (.val .non)
  | .cbl b => .ok (.val (.bl b))
  | .cint i => .ok (.val (.int i))
  | .cstr x => .ok (.val (.str x))
  | .var i => match e[i]? with
    | some (.val d) => .ok (.val d)
    | some (.own d) => .ok (.bor d)
    | some (.lent d) => .ok (.bor d)
    | some (.bor d) => .ok (.bor d)
    | _ => .stuck
  | .tup es => (evXs e es).bind fun rs => (asVals rs).bind fun ds => .ok (.val (.tup ds))
  | .lst es => (evXs e es).bind fun rs => (asVals rs).bind fun ds => .ok (.own (.lst ds))
  | .dct es => (evXs e es).bind fun rs => (asVals rs).bind fun ds => (pairUp ds).bind fun l => .ok (.own (.dct (merge [] l)))
  | .bin o a b => (evX e a).bind fun x => (evX e b).bind fun y => binop o x.d y.d
  | .neg a => (evX e a).bind fun x => match x.d with | .int i => .ok (.val (.int (-i))) | _ => .stuck
  | .cmp o a b => (evX e a).bind fun x => (evX e b).bind fun y => cmpop o x.d y.d
  | .and es => (evAnd e es).bind fun b => .ok (.val (.bl b))
  | .or es => (evOr e es).bind fun b => .ok (.val (.bl b))
  | .not a => (evX e a).bind fun x => (asBl x).bind fun b => .ok (.val (.bl !b))
  | .ife t a b => (evX e t).bind fun x => (asBl x).bind fun c => if c = true then evX e a else evX e b
  | .call f es => (evXs e es).bind fun rs => call f rs
  | .bfn f es => (evXs e es).bind fun rs => bfnop f (rs.map RV.d)
  | .isi a ts => (evX e a).bind fun x => .ok (.val (.bl (ts.any (x.d.isTy ·))))
  | .sub a i => (evX e a).bind fun x => (evX e i).bind fun y => subop x.d y.d
  | .slc a lo hi => (evX e a).bind fun x => (if isNone lo = true then .ok none else (evX e lo).bind bound).bind fun l => (if isNone hi = true then .ok none else (evX e hi).bind bound).bind fun h => slcop x.d l h
  | .mth m a es => (evX e a).bind fun x => if mthOk m x.d = true then (evXs e es).bind fun rs => (asVals (mthArg m rs)).bind fun _ => mthop m x.d (rs.map RV.d) else .stuck
  | .litems a => (evX e a).bind fun x => match x.d with
    | .dct kvs => .ok (.own (.lst (kvs.map fun kv => .tup [.str kv.1, kv.2])))
    | _ => .stuck
  | .isE i c => match e[i]? with
    | some (.err c') => .ok (.val (.bl (sub c' c)))
    | _ => .stuck
  | .isEs i cs => match e[i]? with
    | some (.err c') => .ok (.val (.bl (cs.any fun c => sub c' c)))
    | _ => .stuck
  | .glob _ i => .ok (.val (.int i))
  | .comp elt tg it cond => (evIt e it).bind fun its => if its.length ≤ lim then
      (compL (fun d => ((setT tg d (wipeS tg e)).bind fun e' =>
        ((evX e' cond).bind asBl).bind fun b => if b = true then (evX e' elt).bind fun y => (asVal y).bind fun d => .ok (some d) else .ok none).noX) its).bind fun l => .ok (.own (.lst l))
    else .stuck
def evXs (e : En) : Xs → Rs (List RV)
  | .nil => .ok []
  | .cons x r => (evX e x).bind fun v => (evXs e r).bind fun vs => .ok (v :: vs)
def evAnd (e : En) : Xs → Rs Bool
  | .nil => .ok true
  | .cons x r => (evX e x).bind fun v => (asBl v).bind fun b => if b = true then evAnd e r else .ok false
def evOr (e : En) : Xs → Rs Bool
  | .nil => .ok false
  | .cons x r => (evX e x).bind fun v => (asBl v).bind fun b => if b = true then .ok true else evOr e r
def evIt (e : En) : It → Rs (List D)
  | .ex a => ((evX e a).bind (itR a)).bind itemsOf
  | .range a => (evX e a).bind rangeOf
  | .enum a => ((evX e a).bind (itR a)).bind enumOf
  | .zip a b => ((evX e a).bind (itR a)).bind fun x => ((evX e b).bind (itR b)).bind fun y => zipOf x y
  | .rev a => ((evX e a).bind (itR a)).bind revOf
end

/-- what a slot is given -/
def giveS : RV → Rs Cel
  | .val d => .ok (.val d)
  | .own d => .ok (.own d)
  | .bor _ => .stuck
/-- a plain thing -/
def flatR : RV → Rs Cel
  | .val d => if d.flat = true then .ok (.val d) else .stuck
  | _ => .stuck
def frzS : Cel → Cel
  | .own d => .val d
  | s => s
/-- what a def hands back: a list or dict of its own goes over -/
def retR (e : En) (x : X) (r : RV) : Rs RV :=
  match r with
  | .val d => .ok (.val d)
  | .own d => .ok (.own d)
  | .bor d => match x with
    | .var i => match e[i]? with
      | some (.own _) => .ok (.own d)
      | _ => .stuck
    | _ => .stuck

mutual
def evS (e : En) : S → Out
  | .asg i x => ((evX call sub e x).bind giveS).out e fun s => .nx (e.set i s)
  | .asg2 i j a b => ((evX call sub e a).bind fun x => (evX call sub e b).bind fun y => (giveS x).bind fun s => (flatR y).bind fun u => .ok (s, u)).out e fun p => .nx ((e.set i p.1).set j p.2)
  | .setI i k v => match e[i]? with
    | some (.own _) => ((evX call sub e v).bind fun y => (asVal y).bind fun d => (evX call sub e k).bind fun x => .ok (x.d, d)).out e fun p => setO e i p.1 p.2
    | _ => .stuck
  | .app i x => match e[i]? with
    | some (.own (.lst xs)) => ((evX call sub e x).bind asVal).out e fun d => if xs.length < lim then .nx (e.set i (.own (.lst (xs ++ [d])))) else .stuck
    | _ => .stuck
  | .popk i k => match e[i]? with
    | some (.own (.dct kvs)) => ((evX call sub e k).bind asVal).out e fun d => match d with
      | .str s => if has kvs s = true then .nx (e.set i (.own (.dct (drop kvs s)))) else .stuck
      | _ => .stuck
    | _ => .stuck
  | .expr x => (evX call sub e x).out e fun _ => .nx e
  | .ifs t a b => ((evX call sub e t).bind asBl).out e fun c => if c = true then evSs e a else evSs e b
  | .forr tg it b => (evIt call sub e it).out e fun its => (loopF (fun d e' => (setT tg d e').out e' fun e2 => evSs e2 b) its (lendE it e)).back e
  | .ret x => ((evX call sub e x).bind (retR e x)).out e fun r => .ret r
  | .rais c => .exc c e
  | .tryy b hs => match evS e b with
    | .exc c e' => if sub c c = true then evHs e' c hs else .stuck
    | o => o
  | .tryAs b c i h => match evS e b with
    | .exc c' e' => if sub c' c' = true then (if sub c' c = true then (match evSs (e'.set i (.err c')) h with
        | .nx e2 => .nx (e2.set i .no)
        | .exc _ _ => .stuck
        | o => o) else .exc c' e') else .stuck
    | o => o
def evSs (e : En) : Ss → Out
  | .nil => .nx e
  | .frz i r => evSs (e.set i (frzS (e.getD i .no))) r
  | .cons s r => match evS e s with
    | .nx e' => evSs e' r
    | o => o
def evHs (e : En) (c : Str) : Hs → Out
  | .nil => .exc c e
  | .cons c' b r => if sub c c' = true then (match evSs e b with
      | .exc _ _ => .stuck
      | o => o) else evHs e c r
end
end

/-- a def: its name, its parameters, its slots' names (parameters first), its body -/
structure Fn where
  name : Str
  ps : List Str
  N : List Str
  body : Ss
structure Tab where
  fns : List Fn
  /-- the classes of errors that are raised, that clauses name, that isinstance is asked of -/
  cls : List Str
  hcl : List Str
  icl : List Str
  sub : Sub
def startE (n : Nat) (args : List RV) : En := (args.map fun r => match r with
  | .val d => Cel.val d
  | .own d => Cel.val d
  | .bor d => Cel.bor d) ++ List.replicate (n - args.length) .no
def callN (T : Tab) : Nat → Nat → List RV → Rs RV
  | 0, _, _ => .stuck
  | n + 1, f, args => match T.fns[f]? with
    | none => .stuck
    | some fn => if args.length = fn.ps.length then match evSs (callN T n) T.sub (startE fn.N.length args) fn.body with
        | .nx _ => .ok (.val .non)
        | .ret r => .ok r
        | .exc c _ => .exc c
        | .stuck => .stuck
      else .stuck
end Ev
set_option Elab.async false
set_option linter.all false
set_option maxRecDepth 100000
set_option maxHeartbeats 4000000
set_option autoImplicit false
/-! The look: is this Python text that text of ours? -/
namespace Ev
open PySem L2

def visB (sc : Scope) (x : Str) : Bool := match sc.names.lookup x with
  | some .local => true
  | some .cell => true
  | some .free => true
  | _ => false
def locB (sc : Scope) (x : Str) : Bool := match sc.names.lookup x with
  | some .local => true
  | some .cell => true
  | _ => false
def glB (sc : Scope) (x : Str) : Bool := match sc.names.lookup x with
  | some .globalImplicit => true
  | _ => false
def notDbg (x : Str) : Bool := !(x == ("__debug__" : Str)) && !(x == ("__classdict__" : Str)) && !(x == ("__name__" : Str))
def bopOk : Bop → Operator → Bool
  | .add, .Add => true
  | .sub, .Sub => true
  | .mul, .Mult => true
  | .fdiv, .FloorDiv => true
  | .mod, .Mod => true
  | _, _ => false
def copOk : Cop → CmpOp → Bool
  | .eq, .Eq => true
  | .ne, .NotEq => true
  | .lt, .Lt => true
  | .le, .LtE => true
  | .gt, .Gt => true
  | .ge, .GtE => true
  | .isN, .Is => true
  | .notN, .IsNot => true
  | .inn, .In => true
  | .notin, .NotIn => true
  | _, _ => false
def bfnName : Bfn → Str
  | .len => "len" | .abs => "abs" | .max2 => "max" | .min2 => "min" | .max1 => "max" | .sum => "sum" | .all => "all" | .repr => "repr"
  | .int1 => "int" | .list1 => "list" | .dict1 => "dict"
def bfnN : Bfn → Nat
  | .max2 => 2 | .min2 => 2 | _ => 1
def mthName : Mth → Str
  | .join => "join" | .get1 => "get" | .get2 => "get" | .count => "count" | .index => "index" | .sindex => "index"
def mthN : Mth → Nat
  | .get2 => 2 | _ => 1
def tyName : Ty → Str
  | .int => "int" | .bool => "bool" | .str => "str" | .tuple => "tuple" | .dict => "dict" | .list => "list"

def isNm (sc : Scope) (x : Str) : Expr → Bool
  | .Name y _ => decide (y = x) && glB sc x && notDbg x
  | _ => false
def slotNm (N : List Str) (i : Nat) : Expr → Bool
  | .Name y _ => decide (N[i]? = some y)
  | _ => false
def tysOk (sc : Scope) : List Ty → List Expr → Bool
  | [], [] => true
  | t :: ts, e :: es => isNm sc (tyName t) e && tysOk sc ts es
  | _, _ => false
def slotV (N : List Str) (sc : Scope) (i : Nat) : Expr → Bool
  | .Name y _ => decide (N[i]? = some y) && visB sc y && notDbg y
  | _ => false
def nmsOk (sc : Scope) : List Str → List Expr → Bool
  | [], [] => true
  | t :: ts, e :: es => isNm sc t e && nmsOk sc ts es
  | _, _ => false
/-- a store to slot i by its name -/
def stB (N : List Str) (sc : Scope) (i : Nat) (x : Str) : Bool := decide (N[i]? = some x) && locB sc x
def noSlice : Expr → Bool
  | .Slice .. => false
  | _ => true
/-- no call without arguments -/
def noCall0 : Expr → Bool
  | .Call _ [] [] _ => false
  | _ => true
/-- not a conditional expression -/
def noIfe : X → Bool
  | .ife .. => false
  | _ => true
def noIfes : Xs → Bool
  | .nil => true
  | .cons x r => noIfe x && noIfes r
/-- what the walk serves so far -/
def mthOn : Mth → Bool
  | .join => true
  | .get1 => true
  | .get2 => true
  | _ => false
def litOn : Bool := false
def noComp : Expr → Bool
  | .ListComp .. => false
  | .SetComp .. => false
  | .DictComp .. => false
  | _ => true
/-- a comprehension that goes to a local name on its line -/
def cmpB (sc : Scope) (y : Str) (py : Pos) : Expr → Bool
  | .ListComp _ _ scope p => (match sc.kind with | .function => true | _ => false) && decide (sc.names.lookup y = some .local) && py.line == p.line && !(scope.names.any fun (n, k) => n == y && (k == .local || k == .cell))
  | _ => false
def tgNames : Expr → List Str
  | .Name y _ => [y]
  | .Tuple [.Name x _, .Name y _] _ _ => [x, y]
  | _ => []
/-- targets of a for: places, distinct -/
def tgOk (N : List Str) (sc : Scope) (tg : List Nat) (t : Expr) : Bool := match tg, t with
  | [i], .Name y _ => stB N sc i y
  | [i, j], .Tuple [.Name x _, .Name y _] _ _ => stB N sc i x && stB N sc j y && decide (i ≠ j)
  | _, _ => false
/-- pairs go to two names -/
def pairTg : It → Expr → Bool
  | .enum _, .Tuple .. => true
  | .enum _, _ => false
  | .zip _ _, .Tuple .. => true
  | .zip _ _, _ => false
  | _, _ => true
/-- two names at once: places, distinct, local, on one line; no constants on the right -/
def twoB (N : List Str) (sc : Scope) (i j : Nat) (x y : Str) (px py : Pos) (c d : Expr) : Bool :=
  decide (N[i]? = some x) && decide (N[j]? = some y) && decide (i ≠ j) && decide (x ≠ y) && decide (sc.names.lookup x = some .local) && decide (sc.names.lookup y = some .local) &&
    (match sc.kind with | .function => true | _ => false) && py.line == px.line && !(foldedForSure 8 c && foldedForSure 8 d) && !(constantsAlone 8 c && constantsAlone 8 d)
def apLine (p q : Pos) : Bool := p.endLine == q.line

section
variable (fns : List Str) (cons : List (Str × Int)) (N : List Str) (cmp : List Str)
mutual
def chkX (sc : Scope) (hot : Bool) : X → Expr → Bool
  | .cnon, e0 => match e0 with
    | .Constant .none _ _ => true
    | _ => false
  | .cbl b, e0 => match e0 with
    | .Constant (.bool c) _ _ => b == c
    | _ => false
  | .cint i, e0 => match e0 with
    | .Constant (.int j) _ _ => decide (i = j)
    | _ => false
  | .cstr x, e0 => match e0 with
    | .Constant (.str y) _ _ => decide (x = y)
    | _ => false
  | .var i, e0 => match e0 with
    | .Name y _ => decide (N[i]? = some y) && visB sc y && notDbg y
    | _ => false
  | .tup es, e0 => match e0 with
    | .Tuple l _ _ => decide (l.length ≤ 1000) && chkXs sc hot es l
    | _ => false
  | .lst es, e0 => match e0 with
    | .List l _ => decide (l.length ≤ 1000) && chkXs sc hot es l
    | _ => false
  | .dct es, e0 => match e0 with
    | .Dict ks vs _ => decide (ks.length ≤ 15) && chkKv sc hot es ks vs
    | _ => false
  | .bin o a b, e0 => match e0 with
    | .BinOp c p d _ => bopOk o p && chkX sc hot a c && chkX sc hot b d
    | _ => false
  | .neg a, e0 => match e0 with
    | .UnaryOp .USub c _ => chkX sc hot a c
    | _ => false
  | .cmp o a b, e0 => match e0 with
    | .Compare c [p] [d] _ => copOk o p && chkX sc hot a c && chkX sc hot b d && !behindInMarks p d
    | _ => false
  | .and es, e0 => match e0 with
    | .BoolOp .And l _ => chkXs sc hot es l && !l.isEmpty && noIfes es
    | _ => false
  | .or es, e0 => match e0 with
    | .BoolOp .Or l _ => chkXs sc hot es l && !l.isEmpty && noIfes es
    | _ => false
  | .not a, e0 => match e0 with
    | .UnaryOp .Not c _ => noIfe a && chkX sc hot a c
    | _ => false
  | .ife t a b, e0 => match e0 with
    | .IfExp c d f _ => noIfe t && chkX sc hot t c && chkX sc hot a d && chkX sc hot b f
    | _ => false
  | .call f es, e0 => match e0 with
    | .Call c l [] _ => !hot && (match fns[f]? with | some nm => isNm sc nm c | none => false) && chkXs sc hot es l
    | _ => false
  | .bfn f es, e0 => match e0 with
    | .Call c l [] _ => !hot && isNm sc (bfnName f) c && decide (l.length = bfnN f) && chkXs sc hot es l
    | _ => false
  | .isi a ts, e0 => match e0 with
    | .Call c [d, t] [] _ => isNm sc ("isinstance" : Str) c && chkX sc hot a d && (match t with
        | .Tuple l _ _ => decide (ts.length ≤ 1000) && tysOk sc ts l
        | _ => tysOk sc ts [t])
    | _ => false
  | .sub a i, e0 => match e0 with
    | .Subscript c d _ => noSlice d && chkX sc hot a c && chkX sc hot i d
    | _ => false
  | .slc a lo hi, e0 => match e0 with
    | .Subscript c (.Slice l h none _) _ => chkX sc hot a c && (match l with | none => isNone lo | some z => !isNone lo && chkX sc hot lo z) && (match h with | none => isNone hi | some z => !isNone hi && chkX sc hot hi z)
    | _ => false
  | .mth m a es, e0 => match e0 with
    | .Call (.Attribute c nm ap) l [] p => mthOn m && decide (nm = mthName m) && noCall0 c && apLine ap p && decide (l.length = mthN m) && chkX sc hot a c && chkXs sc hot es l
    | _ => false
  | .litems a, e0 => match e0 with
    | .Call f [.Call (.Attribute c nm ap) [] [] p] [] _ => litOn && !hot && isNm sc ("list" : Str) f && decide (nm = ("items" : Str)) && noCall0 c && apLine ap p && chkX sc hot a c
    | _ => false
  | .isE j c, e0 => match e0 with
    | .Call f [d, t] [] _ => hot && isNm sc ("isinstance" : Str) f && slotV N sc j d && isNm sc c t && decide (c ∈ cmp)
    | _ => false
  | .isEs j cs, e0 => match e0 with
    | .Call f [d, .Tuple l _ _] [] _ => hot && isNm sc ("isinstance" : Str) f && slotV N sc j d && nmsOk sc cs l && decide (cs.length ≤ 1000) && cs.all (fun c => decide (c ∈ cmp))
    | _ => false
  | .glob x i, e0 => match e0 with
    | .Name y _ => decide (x = y) && glB sc x && notDbg x && decide ((x, i) ∈ cons)
    | _ => false
  | .comp elt tg it cond, e0 => match e0 with
    | .ListComp x [⟨t, i, cs, 0⟩] scope _ => !hot && blkC N sc scope ((tgNames t).zip tg) && tgOk N (relS scope sc) tg t && (tgNames t).all (fun y => locB scope y) && pairTg it t &&
        chkIt sc hot it i && chkX (relS scope sc) hot elt x && (match cs with
          | [] => (match cond with | .cbl true => true | _ => false)
          | [c] => noIfe cond && chkX (relS scope sc) hot cond c
          | _ => false)
    | _ => false
def chkXs (sc : Scope) (hot : Bool) : Xs → List Expr → Bool
  | .nil, e0 => match e0 with
    | [] => true
    | _ => false
  | .cons x r, e0 => match e0 with
    | e :: es => chkX sc hot x e && chkXs sc hot r es
    | _ => false
def chkKv (sc : Scope) (hot : Bool) : Xs → List (Option Expr) → List Expr → Bool
  | .nil, [], [] => true
  | .cons k (.cons v r), some ke :: ks, ve :: vs => chkX sc hot k ke && chkX sc hot v ve && chkKv sc hot r ks vs
  | _, _, _ => false
def chkIt (sc : Scope) (hot : Bool) : It → Expr → Bool
  | .ex a, e0 => chkX sc hot a e0
  | .range a, e0 => match e0 with
    | .Call c [d] [] _ => isNm sc ("range" : Str) c && chkX sc hot a d
    | _ => false
  | .enum a, e0 => match e0 with
    | .Call c [d] [] _ => isNm sc ("enumerate" : Str) c && chkX sc hot a d
    | _ => false
  | .zip a b, e0 => match e0 with
    | .Call c [d, f] [] _ => isNm sc ("zip" : Str) c && chkX sc hot a d && chkX sc hot b f
    | _ => false
  | .rev a, e0 => match e0 with
    | .Call c [d] [] _ => isNm sc ("reversed" : Str) c && chkX sc hot a d
    | _ => false
end

variable (cls hcl : List Str) (sc : Scope)
mutual
def chkS (hot : Bool) : S → Stmt → Bool
  | .asg i x, e0 => match e0 with
    | .Assign [.Name y py] e _ => stB N sc i y && (noComp e || (!hot && cmpB sc y py e)) && chkX fns cons N cmp sc hot x e
    | _ => false
  | .asg2 i j a b, e0 => match e0 with
    | .Assign [.Tuple [.Name x px, .Name y py] _ _] (.Tuple [c, d] _ _) _ => twoB N sc i j x y px py c d && !hot && chkX fns cons N cmp sc hot a c && chkX fns cons N cmp sc hot b d
    | _ => false
  | .setI i k v, e0 => match e0 with
    | .Assign [.Subscript c d _] e _ => noComp e && chkX fns cons N cmp sc hot (.var i) c && noSlice d && chkX fns cons N cmp sc hot k d && chkX fns cons N cmp sc hot v e
    | _ => false
  | .app i x, e0 => match e0 with
    | .Expr (.Call (.Attribute c nm ap) [e] [] p) _ => decide (nm = ("append" : Str)) && noCall0 c && apLine ap p && chkX fns cons N cmp sc hot (.var i) c && chkX fns cons N cmp sc hot x e
    | _ => false
  | .popk i x, e0 => match e0 with
    | .Expr (.Call (.Attribute c nm ap) [e] [] p) _ => decide (nm = ("pop" : Str)) && noCall0 c && apLine ap p && chkX fns cons N cmp sc hot (.var i) c && chkX fns cons N cmp sc hot x e
    | _ => false
  | .expr x, e0 => match e0 with
    | .Expr e _ => chkX fns cons N cmp sc hot x e && noComp e
    | _ => false
  | .ifs t a b, e0 => match e0 with
    | .If c d f _ => noIfe t && chkX fns cons N cmp sc hot t c && chkSs hot a d && chkSs hot b f
    | _ => false
  | .forr tg it b, e0 => match e0 with
    | .For t i d [] _ => !hot && tgOk N sc tg t && pairTg it t && chkIt fns cons N cmp sc hot it i && chkSs hot b d
    | _ => false
  | .ret x, e0 => match e0 with
    | .Return (some e) _ => chkX fns cons N cmp sc hot x e
    | .Return none _ => isNone x
    | _ => false
  | .rais c, e0 => match e0 with
    | .Raise (some (.Call f [.Constant (.str _) _ _] [] _)) none _ => !hot && isNm sc c f && decide (c ∈ cls)
    | _ => false
  | .tryy b hs, e0 => match e0 with
    | .Try [st] hds [] [] _ => !hot && chkS hot b st && chkHs hs hds && !hds.isEmpty
    | _ => false
  | .tryAs b c i h, e0 => match e0 with
    | .Try [st] [.ExceptHandler (some (.Name c' _)) (some y) (s0 :: suite) _] [] [] _ => !hot && decide (c' = c) && glB sc c && notDbg c && decide (c ∈ hcl) &&
        decide (N[i]? = some y) && decide (sc.names.lookup y = some .local) && chkS hot b st && chkSs true h (s0 :: suite)
    | _ => false
def chkSs (hot : Bool) : Ss → List Stmt → Bool
  | .nil, e0 => match e0 with
    | [] => true
    | [.Pass _] => true
    | _ => false
  | .frz _ r, e0 => chkSs hot r e0
  | .cons s r, e0 => match e0 with
    | st :: sts => chkS hot s st && chkSs hot r sts
    | _ => false
def chkHs : Hs → List ExceptHandler → Bool
  | .nil, e0 => match e0 with
    | [] => true
    | _ => false
  | .cons c b r, e0 => match e0 with
    | .ExceptHandler (some (.Name c' _)) none (s0 :: suite) _ :: hds => decide (c' = c) && glB sc c && notDbg c && decide (c ∈ hcl) && chkSs true b (s0 :: suite) && chkHs r hds
    | _ => false
end
end

def fnScB (N ps : List Str) (sc : Scope) : Bool :=
  (match sc.kind with | .function => true | _ => false) && !sc.isCoroutine && !sc.isGenerator && decide N.Nodup && decide (N.take ps.length = ps) && ps.all (fun x => locB sc x) &&
    sc.names.all (fun y => match y.2 with | .free => false | _ => true)
theorem fnScB_ok {N ps : List Str} {sc : Scope} (h : fnScB N ps sc = true) : FnScope N ps sc := by
  unfold fnScB at h
  simp only [Bool.and_eq_true, Bool.not_eq_true', decide_eq_true_eq, List.all_eq_true] at h
  obtain ⟨⟨⟨⟨⟨⟨h1, h2⟩, h3⟩, h4⟩, h5⟩, h6⟩, h7⟩ := h
  refine ⟨?_, h2, h3, h4, h5, fun x hx => ?_, fun y hy e => ?_⟩
  · split at h1
    · assumption
    · cases h1
  · have q := h6 x hx
    unfold locB at q
    split at q <;> first | exact .inl (by assumption) | exact .inr (by assumption) | cases q
  · have q := h7 y hy
    rw [e] at q
    cases q
/-- the text of a def, as a whole -/
def chkFn (fns : List Str) (cons : List (Str × Int)) (cmp : List Str) (cls hcl : List Str) (fn : Fn) (st : Stmt) : Bool :=
  fnScB fn.N fn.ps (defScope st) && chkSs fns cons fn.N cmp cls hcl (defScope st) false fn.body (defBody st)
end Ev
set_option Elab.async false
set_option linter.all false
set_option maxRecDepth 100000
set_option maxHeartbeats 4000000
set_option autoImplicit false
/-! What data a value stands for over a heap; what holds of a def's names. -/
namespace Ev
open PySem PySem.Spec PyProof.Rows L2

def plainO : HO → Bool
  | .lst _ => true
  | .tup _ => true
  | .dK _ => true
  | _ => false

mutual
/-- v stands for d; nothing at an address of O is met on the way -/
def At (O : Addr → Prop) (H : Hp) : D → V → Prop
  | .non, v => v = .non
  | .bl b, v => v = .bl b
  | .int i, v => v = .int i
  | .str x, v => v = .str x
  | .tup ds, v => ∃ a vs, v = .ref a ∧ ¬ O a ∧ Rd H a (.tup vs) ∧ AtL O H ds vs
  | .lst ds, v => ∃ a vs, v = .ref a ∧ ¬ O a ∧ Rd H a (.lst vs) ∧ AtL O H ds vs
  | .dct ks, v => ∃ a kvs, v = .ref a ∧ ¬ O a ∧ Rd H a (.dK kvs) ∧ AtD O H ks kvs
def AtL (O : Addr → Prop) (H : Hp) : List D → List V → Prop
  | [], vs => vs = []
  | d :: ds, vs => ∃ v r, vs = v :: r ∧ At O H d v ∧ AtL O H ds r
def AtD (O : Addr → Prop) (H : Hp) : List (Str × D) → List (Key × V) → Prop
  | [], kvs => kvs = []
  | (k, d) :: ks, kvs => ∃ v r, kvs = (.inr k, v) :: r ∧ At O H d v ∧ AtD O H ks r
end

/-- how data goes over to another heap, another set of addresses -/
def Tr (O O' : Addr → Prop) (H H' : Hp) : Prop := ∀ a u, plainO u = true → ¬ O a → Rd H a u → ¬ O' a ∧ Rd H' a u
mutual
theorem At.tr {O O' : Addr → Prop} {H H' : Hp} (t : Tr O O' H H') : ∀ (d : D) (v : V), At O H d v → At O' H' d v
  | .non, _, h => by unfold At at h ⊢; exact h
  | .bl _, _, h => by unfold At at h ⊢; exact h
  | .int _, _, h => by unfold At at h ⊢; exact h
  | .str _, _, h => by unfold At at h ⊢; exact h
  | .tup ds, _, h => by
    unfold At at h ⊢
    obtain ⟨a, vs, e, n, r, l⟩ := h
    obtain ⟨n', r'⟩ := t a _ rfl n r
    exact ⟨a, vs, e, n', r', AtL.tr t ds vs l⟩
  | .lst ds, _, h => by
    unfold At at h ⊢
    obtain ⟨a, vs, e, n, r, l⟩ := h
    obtain ⟨n', r'⟩ := t a _ rfl n r
    exact ⟨a, vs, e, n', r', AtL.tr t ds vs l⟩
  | .dct ks, _, h => by
    unfold At at h ⊢
    obtain ⟨a, vs, e, n, r, l⟩ := h
    obtain ⟨n', r'⟩ := t a _ rfl n r
    exact ⟨a, vs, e, n', r', AtD.tr t ks vs l⟩
theorem AtL.tr {O O' : Addr → Prop} {H H' : Hp} (t : Tr O O' H H') : ∀ (ds : List D) (vs : List V), AtL O H ds vs → AtL O' H' ds vs
  | [], _, h => by unfold AtL at h ⊢; exact h
  | d :: ds, _, h => by
    unfold AtL at h ⊢
    obtain ⟨v, r, e, a, l⟩ := h
    exact ⟨v, r, e, At.tr t d v a, AtL.tr t ds r l⟩
theorem AtD.tr {O O' : Addr → Prop} {H H' : Hp} (t : Tr O O' H H') : ∀ (ks : List (Str × D)) (vs : List (Key × V)), AtD O H ks vs → AtD O' H' ks vs
  | [], _, h => by unfold AtD at h ⊢; exact h
  | (k, d) :: ks, _, h => by
    unfold AtD at h ⊢
    obtain ⟨v, r, e, a, l⟩ := h
    exact ⟨v, r, e, At.tr t d v a, AtD.tr t ks r l⟩
end

theorem rd_same {H H' : Hp} {a : Addr} {u : HO} (s : Same H H') (r : Rd H a u) : Rd H' a u := by
  rcases r with r | ⟨o, r⟩
  · exact .inl (s _ _ r)
  · exact .inr ⟨o, s _ _ r⟩
theorem rd_there {H : Hp} {a : Addr} {u : HO} (r : Rd H a u) : H a ≠ none := by
  rcases r with r | ⟨o, r⟩ <;> (rw [r]; intro z; cases z)
theorem Tr.same {O : Addr → Prop} {H H' : Hp} (s : Same H H') : Tr O O H H' := fun _ _ _ n r => ⟨n, rd_same s r⟩
theorem Tr.less {O O' : Addr → Prop} {H : Hp} (h : ∀ b, O' b → O b) : Tr O O' H H := fun a _ _ n r => ⟨fun z => n (h a z), r⟩
/-- the set grows by what wasn't there -/
theorem Tr.grow {O O' : Addr → Prop} {H : Hp} (h : ∀ b, O' b → O b ∨ H b = none) : Tr O O' H H := fun a _ _ n r => ⟨fun z => (h a z).elim n (rd_there r), r⟩
/-- all but what is in O is kept; O grows by what wasn't there -/
theorem Tr.keep {O O' : Addr → Prop} {H H' : Hp} (k : ∀ b o, H b = some o → ¬ O b → H' b = some o) (h : ∀ b, O' b → O b ∨ H b = none) : Tr O O' H H' := fun a u _ n r => by
  refine ⟨fun z => (h a z).elim n (rd_there r), ?_⟩
  rcases r with r | ⟨o, r⟩
  · exact .inl (k _ _ r n)
  · exact .inr ⟨o, k _ _ r n⟩
theorem Tr.trans {O O1 O2 : Addr → Prop} {H H1 H2 : Hp} (a : Tr O O1 H H1) (b : Tr O1 O2 H1 H2) : Tr O O2 H H2 := fun c u p n r => let ⟨n1, r1⟩ := a c u p n r; b c u p n1 r1

theorem AtL.length {O : Addr → Prop} {H : Hp} : ∀ (ds : List D) (vs : List V), AtL O H ds vs → ds.length = vs.length
  | [], _, h => by unfold AtL at h; rw [h]; rfl
  | d :: ds, _, h => by
    unfold AtL at h
    obtain ⟨v, r, e, _, l⟩ := h
    rw [e, List.length_cons, List.length_cons, AtL.length ds r l]
theorem AtD.length {O : Addr → Prop} {H : Hp} : ∀ (ds : List (Str × D)) (vs : List (Key × V)), AtD O H ds vs → ds.length = vs.length
  | [], _, h => by unfold AtD at h; rw [h]; rfl
  | (k, d) :: ds, _, h => by
    unfold AtD at h
    obtain ⟨v, r, e, _, l⟩ := h
    rw [e, List.length_cons, List.length_cons, AtD.length ds r l]
theorem AtL.append {O : Addr → Prop} {H : Hp} : ∀ {ds es : List D} {vs us : List V}, AtL O H ds vs → AtL O H es us → AtL O H (ds ++ es) (vs ++ us)
  | [], _, _, _, h, q => by unfold AtL at h; rw [h]; exact q
  | d :: ds, es, _, us, h, q => by
    unfold AtL at h
    obtain ⟨v, r, e, a, l⟩ := h
    rw [e]
    show AtL O H (d :: (ds ++ es)) (v :: (r ++ us))
    unfold AtL
    exact ⟨v, _, rfl, a, AtL.append l q⟩
theorem AtL.cons {O : Addr → Prop} {H : Hp} {d : D} {ds : List D} {v : V} {vs : List V} (a : At O H d v) (l : AtL O H ds vs) : AtL O H (d :: ds) (v :: vs) := by
  unfold AtL
  exact ⟨v, vs, rfl, a, l⟩
theorem AtL.nil {O : Addr → Prop} {H : Hp} : AtL O H [] [] := by unfold AtL; rfl
theorem AtL.one {O : Addr → Prop} {H : Hp} {d : D} {v : V} (a : At O H d v) : AtL O H [d] [v] := .cons a .nil
theorem AtL.get {O : Addr → Prop} {H : Hp} : ∀ {ds : List D} {vs : List V} {i : Nat} {d : D}, AtL O H ds vs → ds[i]? = some d → ∃ v, vs[i]? = some v ∧ At O H d v
  | [], _, _, _, _, e => by simp at e
  | d :: ds, _, i, d', h, e => by
    unfold AtL at h
    obtain ⟨v, r, ev, a, l⟩ := h
    cases i with
    | zero =>
      simp only [List.getElem?_cons_zero, Option.some.injEq] at e
      subst e
      exact ⟨v, by rw [ev]; rfl, a⟩
    | succ i =>
      simp only [List.getElem?_cons_succ] at e
      obtain ⟨u, hu, au⟩ := AtL.get l e
      exact ⟨u, by rw [ev]; simpa using hu, au⟩
theorem AtL.take {O : Addr → Prop} {H : Hp} : ∀ {ds : List D} {vs : List V} (n : Nat), AtL O H ds vs → AtL O H (ds.take n) (vs.take n)
  | _, _, 0, _ => by simp only [List.take_zero]; exact .nil
  | [], _, _ + 1, h => by unfold AtL at h; rw [h]; simp only [List.take_nil]; exact .nil
  | d :: ds, _, n + 1, h => by
    unfold AtL at h
    obtain ⟨v, r, e, a, l⟩ := h
    rw [e, List.take_succ_cons, List.take_succ_cons]
    exact .cons a (AtL.take n l)
theorem AtL.drop {O : Addr → Prop} {H : Hp} : ∀ {ds : List D} {vs : List V} (n : Nat), AtL O H ds vs → AtL O H (ds.drop n) (vs.drop n)
  | _, _, 0, h => by simp only [List.drop_zero]; exact h
  | [], _, _ + 1, h => by unfold AtL at h; rw [h]; simp only [List.drop_nil]; exact .nil
  | d :: ds, _, n + 1, h => by
    unfold AtL at h
    obtain ⟨v, r, e, a, l⟩ := h
    rw [e, List.drop_succ_cons, List.drop_succ_cons]
    exact AtL.drop n l
theorem AtL.set {O : Addr → Prop} {H : Hp} {d : D} {v : V} (a : At O H d v) : ∀ {ds : List D} {vs : List V} (n : Nat), AtL O H ds vs → AtL O H (ds.set n d) (vs.set n v)
  | [], _, _, h => by unfold AtL at h; rw [h]; exact .nil
  | e :: ds, _, 0, h => by
    unfold AtL at h
    obtain ⟨w, r, q, _, l⟩ := h
    rw [q]
    exact .cons a l
  | e :: ds, _, n + 1, h => by
    unfold AtL at h
    obtain ⟨w, r, q, b, l⟩ := h
    rw [q]
    exact .cons b (AtL.set a n l)
theorem AtL.reverse {O : Addr → Prop} {H : Hp} : ∀ {ds : List D} {vs : List V}, AtL O H ds vs → AtL O H ds.reverse vs.reverse
  | [], _, h => by unfold AtL at h; rw [h]; exact .nil
  | d :: ds, _, h => by
    unfold AtL at h
    obtain ⟨v, r, e, a, l⟩ := h
    rw [e, List.reverse_cons, List.reverse_cons]
    exact (AtL.reverse l).append (.one a)

theorem AtD.nil {O : Addr → Prop} {H : Hp} : AtD O H [] [] := by unfold AtD; rfl
theorem AtD.cons {O : Addr → Prop} {H : Hp} {k : Str} {d : D} {ds : List (Str × D)} {v : V} {vs : List (Key × V)} (a : At O H d v) (l : AtD O H ds vs) : AtD O H ((k, d) :: ds) ((.inr k, v) :: vs) := by
  unfold AtD
  exact ⟨v, vs, rfl, a, l⟩
theorem inr_dec (a b : Str) : decide ((Sum.inr a : Key) = Sum.inr b) = decide (a = b) := key_rr a b
/-- what a look-up gives -/
theorem AtD.look {O : Addr → Prop} {H : Hp} (k : Str) : ∀ {ks : List (Str × D)} {vs : List (Key × V)}, AtD O H ks vs →
    (look ks k = none ∧ valV vs (Sum.inr k) = none) ∨ ∃ d v, look ks k = some d ∧ valV vs (Sum.inr k) = some v ∧ At O H d v
  | [], _, h => by unfold AtD at h; rw [h]; exact .inl ⟨rfl, rfl⟩
  | (k', d) :: ks, _, h => by
    unfold AtD at h
    obtain ⟨v, r, e, a, l⟩ := h
    rw [e]
    by_cases q : k' = k
    · exact .inr ⟨d, v, by simp [Ev.look, List.find?_cons, q], by rw [valV_pos (by rw [q])], a⟩
    · have q' : ¬ (Sum.inr k' : Key) = Sum.inr k := fun z => q (Sum.inr.inj z)
      have e1 : Ev.look ((k', d) :: ks) k = Ev.look ks k := by simp [Ev.look, List.find?_cons, q]
      have e2 : valV ((Sum.inr k', v) :: r) (Sum.inr k) = valV r (Sum.inr k) := valV_neg q'
      rw [e1, e2]
      exact AtD.look k l
theorem AtD.has {O : Addr → Prop} {H : Hp} (k : Str) {ks : List (Str × D)} {vs : List (Key × V)} (h : AtD O H ks vs) : Ev.has ks k = (valV vs (Sum.inr k)).isSome := by
  have e : ∀ l : List (Str × D), Ev.has l k = (Ev.look l k).isSome := fun l => by
    induction l with
    | nil => rfl
    | cons p r ih =>
      by_cases q : p.1 = k
      · simp [Ev.has, Ev.look, List.find?_cons, q]
      · have e1 : Ev.has (p :: r) k = Ev.has r k := by simp [Ev.has, q]
        have e2 : Ev.look (p :: r) k = Ev.look r k := by simp [Ev.look, List.find?_cons, q]
        rw [e1, e2, ih]
  rw [e]
  rcases AtD.look k h with ⟨e1, e2⟩ | ⟨d, v, e1, e2, _⟩ <;> (rw [e1, e2]; rfl)
theorem AtD.any {O : Addr → Prop} {H : Hp} (k : Str) : ∀ {ks : List (Str × D)} {vs : List (Key × V)}, AtD O H ks vs → (vs.any fun kv => decide (kv.1 = Sum.inr k)) = Ev.has ks k
  | ks, vs, h => by rw [AtD.has k h, valV_any]
theorem AtD.append {O : Addr → Prop} {H : Hp} : ∀ {ks js : List (Str × D)} {vs us : List (Key × V)}, AtD O H ks vs → AtD O H js us → AtD O H (ks ++ js) (vs ++ us)
  | [], _, _, _, h, q => by unfold AtD at h; rw [h]; exact q
  | (k, d) :: ks, js, _, us, h, q => by
    unfold AtD at h
    obtain ⟨v, r, e, a, l⟩ := h
    rw [e]
    exact .cons a (AtD.append l q)
theorem AtD.mapPut {O : Addr → Prop} {H : Hp} {k : Str} {d : D} {v : V} (a : At O H d v) : ∀ {ks : List (Str × D)} {vs : List (Key × V)}, AtD O H ks vs →
    AtD O H (ks.map fun kv => if kv.1 = k then (kv.1, d) else kv) (vs.map fun kv => if kv.1 = Sum.inr k then (kv.1, v) else kv)
  | [], _, h => by unfold AtD at h; rw [h]; exact .nil
  | (k', d') :: ks, _, h => by
    unfold AtD at h
    obtain ⟨v', r, e, a', l⟩ := h
    rw [e, List.map_cons, List.map_cons]
    by_cases q : k' = k
    · have q2 : (Sum.inr k' : Key) = Sum.inr k := by rw [q]
      rw [if_pos q, if_pos q2]
      exact .cons a (AtD.mapPut a l)
    · have q2 : ¬ (Sum.inr k' : Key) = Sum.inr k := fun z => q (Sum.inr.inj z)
      rw [if_neg q, if_neg q2]
      exact .cons a' (AtD.mapPut a l)
theorem AtD.put {O : Addr → Prop} {H : Hp} {k : Str} {d : D} {v : V} (a : At O H d v) {ks : List (Str × D)} {vs : List (Key × V)} (h : AtD O H ks vs) : AtD O H (Ev.put ks k d) (putK vs (Sum.inr k) v) := by
  unfold Ev.put putK
  rw [AtD.any k h]
  by_cases q : Ev.has ks k = true
  · rw [if_pos q, if_pos q]
    exact AtD.mapPut a h
  · rw [if_neg q, if_neg q]
    exact h.append (.cons a .nil)
theorem AtD.drop {O : Addr → Prop} {H : Hp} (k : Str) : ∀ {ks : List (Str × D)} {vs : List (Key × V)}, AtD O H ks vs → AtD O H (Ev.drop ks k) (dropK vs (Sum.inr k))
  | [], _, h => by unfold AtD at h; rw [h]; exact .nil
  | (k', d) :: ks, _, h => by
    unfold AtD at h
    obtain ⟨v, r, e, a, l⟩ := h
    rw [e]
    unfold Ev.drop dropK
    by_cases q : k' = k
    · have q2 : (Sum.inr k' : Key) = Sum.inr k := by rw [q]
      rw [List.filter_cons_of_neg (by simp [q]), List.filter_cons_of_neg (by simp [q2])]
      exact AtD.drop k l
    · have q2 : ¬ (Sum.inr k' : Key) = Sum.inr k := fun z => q (Sum.inr.inj z)
      rw [List.filter_cons_of_pos (by simp [q]), List.filter_cons_of_pos (by simp [q])]
      exact .cons a (AtD.drop k l)
theorem AtD.merge {O : Addr → Prop} {H : Hp} : ∀ {js : List (Str × D)} {us : List (Key × V)} {ks : List (Str × D)} {vs : List (Key × V)}, AtD O H js us → AtD O H ks vs → AtD O H (Ev.merge ks js) (mergeK vs us)
  | [], _, _, _, h, q => by unfold AtD at h; rw [h]; exact q
  | (k, d) :: js, _, ks, vs, h, q => by
    unfold AtD at h
    obtain ⟨v, r, e, a, l⟩ := h
    rw [e]
    show AtD O H (Ev.merge (Ev.put ks k d) js) (mergeK (putK vs (Sum.inr k) v) r)
    exact AtD.merge l (q.put a)
theorem AtD.keys {O : Addr → Prop} {H : Hp} : ∀ {ks : List (Str × D)} {vs : List (Key × V)}, AtD O H ks vs → vs.map (·.1) = ks.map fun kv => (Sum.inr kv.1 : Key)
  | [], _, h => by unfold AtD at h; rw [h]; rfl
  | (k, d) :: ks, _, h => by
    unfold AtD at h
    obtain ⟨v, r, e, a, l⟩ := h
    rw [e, List.map_cons, List.map_cons, AtD.keys l]

/-! ### what is held apart, what is lent -/
def with1 (O : Addr → Prop) (a : Addr) : Addr → Prop := fun b => O b ∨ b = a
def OwnAt (O : Addr → Prop) (H : Hp) (a : Addr) : D → Prop
  | .lst ds => ∃ vs, H a = some (.lst vs) ∧ AtL O H ds vs
  | .dct ks => ∃ kvs, H a = some (.dK kvs) ∧ AtD O H ks kvs
  | _ => False
def BorAt (K : PySem.W.Frag) (O : Addr → Prop) (H : Hp) (a : Addr) : D → Prop
  | .lst ds => ∃ vs, SqL K H a vs ∧ AtL O H ds vs
  | .dct ks => ∃ kvs, Rd H a (.dK kvs) ∧ AtD O H ks kvs
  | _ => False
theorem OwnAt.there {O : Addr → Prop} {H : Hp} {a : Addr} : ∀ {d : D}, OwnAt O H a d → ∃ o, H a = some o
  | .lst _, ⟨_, h, _⟩ => ⟨_, h⟩
  | .dct _, ⟨_, h, _⟩ => ⟨_, h⟩
theorem OwnAt.tr {O O' : Addr → Prop} {H H' : Hp} {a : Addr} (t : Tr O O' H H') (k : ∀ o, H a = some o → H' a = some o) : ∀ {d : D}, OwnAt O H a d → OwnAt O' H' a d
  | .lst ds, ⟨vs, h, l⟩ => ⟨vs, k _ h, AtL.tr t ds vs l⟩
  | .dct ks, ⟨vs, h, l⟩ => ⟨vs, k _ h, AtD.tr t ks vs l⟩
theorem OwnAt.bor {K : PySem.W.Frag} {O : Addr → Prop} {H : Hp} {a : Addr} : ∀ {d : D}, OwnAt O H a d → BorAt K O H a d
  | .lst _, ⟨vs, h, l⟩ => ⟨vs, .of h, l⟩
  | .dct _, ⟨vs, h, l⟩ => ⟨vs, .of h, l⟩
theorem OwnAt.at_ {O : Addr → Prop} {H : Hp} {a : Addr} (n : ¬ O a) : ∀ {d : D}, OwnAt O H a d → At O H d (.ref a)
  | .lst _, ⟨vs, h, l⟩ => by unfold At; exact ⟨a, vs, rfl, n, .of h, l⟩
  | .dct _, ⟨vs, h, l⟩ => by unfold At; exact ⟨a, vs, rfl, n, .of h, l⟩
theorem BorAt.tr {K : PySem.W.Frag} {O O' : Addr → Prop} {H H' : Hp} {a : Addr} (t : Tr O O' H H') (k : ∀ u, plainO u = true → Rd H a u → Rd H' a u) : ∀ {d : D}, BorAt K O H a d → BorAt K O' H' a d
  | .lst ds, ⟨vs, h, l⟩ => ⟨vs, h.elim (fun z => .inl (k _ rfl z)) .inr, AtL.tr t ds vs l⟩
  | .dct ks, ⟨vs, h, l⟩ => ⟨vs, k _ rfl h, AtD.tr t ks vs l⟩

/-- how what an expression gave is held -/
def ResOk (K : PySem.W.Frag) (O : Addr → Prop) (H H' : Hp) : RV → V → Prop
  | .val d, v => At O H' d v
  | .own d, v => ∃ a, v = .ref a ∧ H a = none ∧ OwnAt (with1 O a) H' a d
  | .bor d, v => ∃ a, v = .ref a ∧ BorAt K O H' a d
/-- as it is seen where it stands -/
def Any (K : PySem.W.Frag) (O : Addr → Prop) (H : Hp) : D → V → Prop
  | .lst ds, v => ∃ a vs, v = .ref a ∧ SqL K H a vs ∧ AtL O H ds vs
  | .dct ks, v => ∃ a kvs, v = .ref a ∧ Rd H a (.dK kvs) ∧ AtD O H ks kvs
  | .tup ds, v => ∃ a vs, v = .ref a ∧ Rd H a (.tup vs) ∧ AtL O H ds vs
  | .non, v => v = .non
  | .bl b, v => v = .bl b
  | .int i, v => v = .int i
  | .str x, v => v = .str x
theorem At.any {K : PySem.W.Frag} {O : Addr → Prop} {H : Hp} : ∀ {d : D} {v : V}, At O H d v → Any K O H d v
  | .lst _, _, h => by unfold At at h; obtain ⟨a, vs, e, _, r, l⟩ := h; exact ⟨a, vs, e, .inl r, l⟩
  | .dct _, _, h => by unfold At at h; obtain ⟨a, vs, e, _, r, l⟩ := h; exact ⟨a, vs, e, r, l⟩
  | .tup _, _, h => by unfold At at h; obtain ⟨a, vs, e, _, r, l⟩ := h; exact ⟨a, vs, e, r, l⟩
  | .non, _, h => by unfold At at h; exact h
  | .bl _, _, h => by unfold At at h; exact h
  | .int _, _, h => by unfold At at h; exact h
  | .str _, _, h => by unfold At at h; exact h
theorem BorAt.any {K : PySem.W.Frag} {O : Addr → Prop} {H : Hp} {a : Addr} : ∀ {d : D}, BorAt K O H a d → Any K O H d (.ref a)
  | .lst _, ⟨vs, h, l⟩ => ⟨a, vs, rfl, h, l⟩
  | .dct _, ⟨vs, h, l⟩ => ⟨a, vs, rfl, h, l⟩
theorem with1_less {O : Addr → Prop} {a : Addr} {H : Hp} : Tr (with1 O a) O H H := Tr.less fun _ z => .inl z
theorem ResOk.any {K : PySem.W.Frag} {O : Addr → Prop} {H H' : Hp} : ∀ {r : RV} {v : V}, ResOk K O H H' r v → Any K O H' r.d v
  | .val _, _, h => At.any h
  | .own _, _, ⟨a, e, _, o⟩ => by rw [e]; exact (OwnAt.bor (OwnAt.tr with1_less (fun _ z => z) o)).any
  | .bor _, _, ⟨a, e, b⟩ => by rw [e]; exact b.any
theorem ResOk.val {K : PySem.W.Frag} {O : Addr → Prop} {H H' : Hp} (hO : ∀ b, O b → H b ≠ none) : ∀ {r : RV} {v : V} {d : D}, ResOk K O H H' r v → asVal r = .ok d → At O H' d v
  | .val _, _, _, h, e => by cases e; exact h
  | .own _, _, _, ⟨a, e, n, o⟩, q => by
    cases q
    rw [e]
    exact (OwnAt.tr with1_less (fun _ z => z) o).at_ fun z => hO _ z n
theorem ResOk.same {K : PySem.W.Frag} {O : Addr → Prop} {H H1 H2 : Hp} (s : Same H1 H2) : ∀ {r : RV} {v : V}, ResOk K O H H1 r v → ResOk K O H H2 r v
  | .val _, _, h => At.tr (.same s) _ _ h
  | .own _, _, ⟨a, e, n, o⟩ => ⟨a, e, n, o.tr (.same s) fun _ z => s _ _ z⟩
  | .bor _, _, ⟨a, e, b⟩ => ⟨a, e, b.tr (.same s) fun _ _ z => rd_same s z⟩
theorem ResOk.from {K : PySem.W.Frag} {O : Addr → Prop} {H H1 H2 : Hp} (s : Same H H1) : ∀ {r : RV} {v : V}, ResOk K O H1 H2 r v → ResOk K O H H2 r v
  | .val _, _, h => h
  | .own _, _, ⟨a, e, n, o⟩ => ⟨a, e, s.free n, o⟩
  | .bor _, _, h => h
theorem Any.same {K : PySem.W.Frag} {O : Addr → Prop} {H H1 : Hp} (s : Same H H1) : ∀ {d : D} {v : V}, Any K O H d v → Any K O H1 d v
  | .lst ds, _, ⟨a, vs, e, r, l⟩ => ⟨a, vs, e, s.seq r, AtL.tr (.same s) ds vs l⟩
  | .dct ks, _, ⟨a, vs, e, r, l⟩ => ⟨a, vs, e, rd_same s r, AtD.tr (.same s) ks vs l⟩
  | .tup ds, _, ⟨a, vs, e, r, l⟩ => ⟨a, vs, e, rd_same s r, AtL.tr (.same s) ds vs l⟩
  | .non, _, h => h
  | .bl _, _, h => h
  | .int _, _, h => h
  | .str _, _, h => h

/-! ### a def's names -/
/-- a slot that has a list or dict of its own, lent or not -/
def Cel.mine : Cel → Bool
  | .own _ => true
  | .lent _ => true
  | _ => false
def Ow (O0 : Addr → Prop) (e : En) (σ : L2.St) : Addr → Prop := fun b => O0 b ∨ ∃ (i : Nat) (c : Cel), e[i]? = some c ∧ c.mine = true ∧ σ[i]? = some (some (.ref b))
/-- what is lent may be locked -/
def LentAt (O : Addr → Prop) (H : Hp) (a : Addr) : D → Prop
  | .lst ds => ∃ vs, H a = some (.lst vs) ∧ AtL O H ds vs
  | .dct ks => ∃ kvs, Rd H a (.dK kvs) ∧ AtD O H ks kvs
  | _ => False
theorem OwnAt.lent {O : Addr → Prop} {H : Hp} {a : Addr} : ∀ {d : D}, OwnAt O H a d → LentAt O H a d
  | .lst _, h => h
  | .dct _, ⟨vs, h, l⟩ => ⟨vs, .of h, l⟩
theorem LentAt.tr {O O' : Addr → Prop} {H H' : Hp} {a : Addr} (t : Tr O O' H H') (k : ∀ o, H a = some o → H' a = some o) : ∀ {d : D}, LentAt O H a d → LentAt O' H' a d
  | .lst ds, ⟨vs, h, l⟩ => ⟨vs, k _ h, AtL.tr t ds vs l⟩
  | .dct ks, ⟨vs, h, l⟩ => ⟨vs, h.elim (fun z => .inl (k _ z)) (fun ⟨o, z⟩ => .inr ⟨o, k _ z⟩), AtD.tr t ks vs l⟩
theorem LentAt.bor {K : PySem.W.Frag} {O : Addr → Prop} {H : Hp} {a : Addr} : ∀ {d : D}, LentAt O H a d → BorAt K O H a d
  | .lst _, ⟨vs, h, l⟩ => ⟨vs, .of h, l⟩
  | .dct _, ⟨vs, h, l⟩ => ⟨vs, h, l⟩
theorem LentAt.there {O : Addr → Prop} {H : Hp} {a : Addr} : ∀ {d : D}, LentAt O H a d → ∃ o, H a = some o
  | .lst _, ⟨_, h, _⟩ => ⟨_, h⟩
  | .dct _, ⟨_, h, _⟩ => h.elim (fun z => ⟨_, z⟩) (fun ⟨_, z⟩ => ⟨_, z⟩)
def SlotOk (K : PySem.W.Frag) (Er : Addr → Str → Prop) (O : Addr → Prop) (H0 H : Hp) : Cel → Option V → Prop
  | .no, _ => True
  | .val d, v => ∃ x, v = some x ∧ At O H d x
  | .own d, v => ∃ a, v = some (.ref a) ∧ H0 a = none ∧ OwnAt O H a d
  | .lent d, v => ∃ a, v = some (.ref a) ∧ H0 a = none ∧ LentAt O H a d
  | .bor d, v => ∃ a, v = some (.ref a) ∧ BorAt K O H0 a d
  | .err c, v => ∃ a, v = some (.ref a) ∧ Er a c
structure Rel (K : PySem.W.Frag) (Er : Addr → Str → Prop) (O0 : Addr → Prop) (H0 : Hp) (e : En) (σ : L2.St) (H : Hp) : Prop where
  same : Same H0 H
  od : ∀ b, O0 b → H0 b ≠ none
  len : e.length = σ.length
  slot : ∀ (i : Nat) (s : Cel), e[i]? = some s → SlotOk K Er (Ow O0 e σ) H0 H s (σ[i]?.join)
  dis : ∀ (i j : Nat) (c c' : Cel) (a : Addr), e[i]? = some c → e[j]? = some c' → c.mine = true → c'.mine = true → σ[i]? = some (some (.ref a)) → σ[j]? = some (some (.ref a)) → i = j

theorem same_new {H : Hp} {p : Addr} (h : H p = none) (o : HO) : Same H (upd H p o) := fun b u q => by rw [upd_ne (ne_of_none q h)]; exact q
theorem join_some {σ : L2.St} {i : Nat} {v : V} (h : σ[i]?.join = some v) : σ[i]? = some (some v) := by
  cases e : σ[i]? with
  | none => rw [e] at h; cases h
  | some o => rw [e] at h; exact congrArg some h
section
variable {K : PySem.W.Frag} {Er : Addr → Str → Prop} {O0 : Addr → Prop} {H0 H H1 : Hp} {e : En} {σ : L2.St}
theorem Rel.own (R : Rel K Er O0 H0 e σ H) {i : Nat} {d : D} (h : e[i]? = some (.own d)) : ∃ a, σ[i]? = some (some (.ref a)) ∧ H0 a = none ∧ Ow O0 e σ a ∧ OwnAt (Ow O0 e σ) H a d := by
  obtain ⟨a, e1, n, o⟩ := R.slot i _ h
  have e2 := join_some e1
  exact ⟨a, e2, n, .inr ⟨i, _, h, rfl, e2⟩, o⟩
theorem Rel.mine (R : Rel K Er O0 H0 e σ H) {i : Nat} {c : Cel} (h : e[i]? = some c) (m : c.mine = true) : ∃ a d, σ[i]? = some (some (.ref a)) ∧ H0 a = none ∧ LentAt (Ow O0 e σ) H a d := by
  cases c with
  | own d => obtain ⟨a, e1, n, o⟩ := R.slot i _ h; exact ⟨a, d, join_some e1, n, o.lent⟩
  | lent d => obtain ⟨a, e1, n, o⟩ := R.slot i _ h; exact ⟨a, d, join_some e1, n, o⟩
  | no => cases m
  | val d => cases m
  | bor d => cases m
  | err d => cases m
theorem Rel.ow (R : Rel K Er O0 H0 e σ H) : ∀ b, Ow O0 e σ b → H b ≠ none := fun b h => by
  rcases h with h | ⟨i, c, h1, m, h2⟩
  · intro z
    exact R.od b h (R.same.free z)
  · obtain ⟨a, d, e1, _, o⟩ := R.mine h1 m
    rw [h2] at e1
    cases e1
    obtain ⟨u, q⟩ := o.there
    rw [q]
    intro z
    cases z
theorem SlotOk.step {O : Addr → Prop} (s : Same H H1) : ∀ {x : Cel} {v : Option V}, SlotOk K Er O H0 H x v → SlotOk K Er O H0 H1 x v
  | .no, _, _ => True.intro
  | .val _, _, ⟨x, e, a⟩ => ⟨x, e, At.tr (.same s) _ _ a⟩
  | .own _, _, ⟨a, e, n, o⟩ => ⟨a, e, n, o.tr (.same s) fun _ z => s _ _ z⟩
  | .lent _, _, ⟨a, e, n, o⟩ => ⟨a, e, n, o.tr (.same s) fun _ z => s _ _ z⟩
  | .bor _, _, h => h
  | .err _, _, h => h
theorem Rel.step (R : Rel K Er O0 H0 e σ H) (s : Same H H1) : Rel K Er O0 H0 e σ H1 :=
  ⟨R.same.trans s, R.od, R.len, fun i x h => (R.slot i x h).step s, R.dis⟩
end
end Ev
set_option Elab.async false
set_option linter.all false
set_option maxRecDepth 100000
set_option maxHeartbeats 4000000
set_option autoImplicit false
/-! A dict is like nothing but a dict. -/
namespace Ev
open PySem PySem.Spec PySem.SeqAt PySem.MeetsSeq PySem.AutoSeq1 PySem.MeetsSeq2 PySem.MeetsSeq3 PySem.SeqRoads2
abbrev dObj (dd : Option Addr) (es : Array DictEntry) (n : Nat) (sl : Array (Option Value)) : Obj := { cls := .type "dict", dict := dd, data := .dict es n, slots := sl }
/-- the object of a dict -/
def IsDct (h : Heap) (a : Addr) : Prop := ∃ dd es n sl, h.get? a = some (dObj dd es n sl)
section
variable {prog : Program} {w : World} {A : Around} {s : Shared}
theorem dict_declines {E : Value → Shared → Prop} {a : Addr} {v : Value} {T : String} {Q : Fin → Shared → Prop} (ha : s.TypeIs (.ref a) "dict") (hv : s.TypeIs v T)
    (hs : isSubtype (.type T) (.type "dict") = pure false) (h : Q (.done (.ret .notImplemented)) s) : wpAny (model prog w) A (Builtin.«dict.__eq__» ⟨[.ref a, v], []⟩) Q E s := by
  show wpAny _ _ (Builtin.Dict.dictSlotArgs "__eq__" _ >>= _) _ _ s
  refine wpAny_bind ?_
  unfold Builtin.Dict.dictSlotArgs
  refine wpAny_bind (wpAny_notOrdered_dict ha ?_)
  refine wpAny_pure ?_
  refine wpAny_bind (wpAny_isInstance (T := T) hv hs ?_)
  simp only [Bool.not_false, if_true]
  exact wpAny_bind (wpAny_rule (wpAny_pure h))
theorem str_eq_dct (b : Str) (u : Tok) (l : Addr) (dd : Option Addr) (es : Array DictEntry) (n : Nat) (sl : Array (Option Value)) :
    Meets (Builtin.«str.__eq__» ⟨[.str b u, .ref l], []⟩) (fun _ R s => s.heap.get? l = some (dObj dd es n sl) ∧ R (.ok (.ret .notImplemented)) s) :=
  .of_wp fun prog w A R s h => by
    obtain ⟨hp, g, d, tk, os⟩ := s
    obtain ⟨hl, h⟩ := h
    wp_walk using wpAny_loadPart' hl, wpAny_load hl
    exact ⟨_, rfl, h⟩
theorem int_eq_dct (b : Int) (u : Tok) (l : Addr) (dd : Option Addr) (es : Array DictEntry) (n : Nat) (sl : Array (Option Value)) :
    Meets (Builtin.«int.__eq__» ⟨[.int b u, .ref l], []⟩) (fun _ R s => s.heap.get? l = some (dObj dd es n sl) ∧ R (.ok (.ret .notImplemented)) s) :=
  .of_wp fun prog w A R s h => by
    obtain ⟨hp, g, d, tk, os⟩ := s
    obtain ⟨hl, h⟩ := h
    wp_walk using wpAny_loadPart' hl, wpAny_load hl
    exact ⟨_, rfl, h⟩
theorem bool_eq_dct (b : Bool) (l : Addr) (dd : Option Addr) (es : Array DictEntry) (n : Nat) (sl : Array (Option Value)) :
    Meets (Builtin.«int.__eq__» ⟨[.bool b, .ref l], []⟩) (fun _ R s => s.heap.get? l = some (dObj dd es n sl) ∧ R (.ok (.ret .notImplemented)) s) :=
  .of_wp fun prog w A R s h => by
    obtain ⟨hp, g, d, tk, os⟩ := s
    obtain ⟨hl, h⟩ := h
    wp_walk using wpAny_loadPart' hl, wpAny_load hl
    exact ⟨_, rfl, h⟩
theorem tuple_eq_dct (t l : Addr) (items : Array Value) (m : Nat) (d1 : Option Addr) (s1 : Array (Option Value)) (dd : Option Addr) (es : Array DictEntry) (n : Nat) (sl : Array (Option Value)) :
    Meets (Builtin.«tuple.__eq__» ⟨[.ref t, .ref l], []⟩) (fun _ R s => s.heap.get? t = some { cls := .type "tuple", dict := d1, data := .seq items m, slots := s1 } ∧
      s.heap.get? l = some (dObj dd es n sl) ∧ R (.ok (.ret .notImplemented)) s) :=
  .of_wp fun prog w A R s h => by
    obtain ⟨hp, g, d, tk, os⟩ := s
    obtain ⟨hl, hb, h⟩ := h
    have f1 := F.sub_dict_tuple
    wp_walk using wpAny_loadPart' hl, wpAny_loadPart' hb
    exact ⟨_, rfl, h⟩
theorem list_eq_dct (t l : Addr) (items : Array Value) (m : Nat) (d1 : Option Addr) (s1 : Array (Option Value)) (dd : Option Addr) (es : Array DictEntry) (n : Nat) (sl : Array (Option Value)) :
    Meets (Builtin.«list.__eq__» ⟨[.ref t, .ref l], []⟩) (fun _ R s => s.heap.get? t = some { cls := .type "list", dict := d1, data := .seq items m, slots := s1 } ∧
      s.heap.get? l = some (dObj dd es n sl) ∧ R (.ok (.ret .notImplemented)) s) :=
  .of_wp fun prog w A R s h => by
    obtain ⟨hp, g, d, tk, os⟩ := s
    obtain ⟨hl, hb, h⟩ := h
    have f1 := F.sub_dict_list
    wp_walk using wpAny_loadPart' hl, wpAny_loadPart' hb
    exact ⟨_, rfl, h⟩
/-- as the call of the slot -/
theorem call_dict_declines {E : Value → Shared → Prop} {l : Addr} {v : Value} {T : String} (hd : IsDct s.heap l) (hv : s.TypeIs v T) (hs : isSubtype (.type T) (.type "dict") = pure false)
    {nm : Str} (sl : Slot "dict" nm "dict.__eq__") (Q' : Value → Shared → Prop) (h : Q' .notImplemented s) : wpAny (model prog w) A (call (.builtin "dict.__eq__") [.ref l, v]) Q' E s := by
  obtain ⟨dd, es, n, sl', ho⟩ := hd
  have ht : s.TypeIs (.ref l) "dict" := ⟨_, ho, rfl⟩
  exact wpAny_call_entry sl ht F.entry_dict_eq (dict_declines ht hv hs ⟨_, rfl, h⟩) (F.args_dict_eq_2 _ _)
end
theorem slot_dict_eq_back : Slot "dict" (cmpInfo .Eq).2.2 "dict.__eq__" := by
  exact F.slot_dict_eq
section
variable {A : Around} {s : Shared} {l : Addr}
theorem rc_dict_left {v : Value} {T id : String} (hd : IsDct s.heap l) (hv : s.TypeIs v T) (hne : (Value.type "dict" != Value.type T) = true) (h1 : isSubtype (.type T) (.type "dict") = pure false)
    (h2 : isSubtype (.type "dict") (.type T) = pure false) (sl : Slot T (cmpInfo .Eq).2.2 id) (hu : A.units < cLine)
    (hc : ∀ (prog : Program) (w : World) (E Q' : Value → Shared → Prop), Q' .notImplemented s → wpAny (model prog w) A (call (.builtin id) [v, .ref l]) Q' E s)
    (hk : ∀ (prog : Program) (w : World) (E : Value → Shared → Prop) (Q' : Bool → Shared → Prop), Q' false s → wpAny (model prog w) A (isSame (.ref l) v) Q' E s) : RcAt A s (.ref l) v false := fun prog w E Q h =>
  rc_eq_decline_or (k := false) (let ⟨_, _, _, _, ho⟩ := hd; ⟨_, ho, rfl⟩) hv hne h1 F.slot_dict_eq sl (fun Q' hq => call_dict_declines hd hv h1 F.slot_dict_eq Q' hq) (hc prog w E) (hk prog w E) (.inr hu) h
theorem rc_dict_right {v : Value} {T id : String} (hd : IsDct s.heap l) (hv : s.TypeIs v T) (hne : (Value.type T != Value.type "dict") = true) (h1 : isSubtype (.type T) (.type "dict") = pure false)
    (h2 : isSubtype (.type "dict") (.type T) = pure false) (sl : Slot T (cmpInfo .Eq).2.1 id) (hu : A.units < cLine)
    (hc : ∀ (prog : Program) (w : World) (E Q' : Value → Shared → Prop), Q' .notImplemented s → wpAny (model prog w) A (call (.builtin id) [v, .ref l]) Q' E s)
    (hk : ∀ (prog : Program) (w : World) (E : Value → Shared → Prop) (Q' : Bool → Shared → Prop), Q' false s → wpAny (model prog w) A (isSame v (.ref l)) Q' E s) : RcAt A s v (.ref l) false := fun prog w E Q h =>
  rc_eq_decline_or (k := false) hv (let ⟨_, _, _, _, ho⟩ := hd; ⟨_, ho, rfl⟩) hne h2 sl slot_dict_eq_back (hc prog w E) (fun Q' hq => call_dict_declines hd hv h1 slot_dict_eq_back Q' hq) (hk prog w E) (.inr hu) h
theorem eqAt_of_rc {v : Value} (hne : v ≠ .ref l) (hf : ∀ b t, v ≠ .float b t) (h : RcAt A s v (.ref l) false) : EqAt A s v (.ref l) false := fun prog w E Q hq => by
  unfold eqBool
  refine wpAny_holding ?_
  refine wpAny_ite_split (fun hab => absurd (eq_of_beq hab) hne) (fun _ => ?_)
  cases v <;> first
    | exact absurd rfl (hf _ _)
    | exact wpAny_bind (h prog w E _ (wpAny_truthy_bool hq))
theorem eqAt_of_rcL {u : Value} (hne : Value.ref l ≠ u) (h : RcAt A s (.ref l) u false) : EqAt A s (.ref l) u false := fun prog w E Q hq => by
  unfold eqBool
  refine wpAny_holding ?_
  refine wpAny_ite_split (fun hab => absurd (eq_of_beq hab) hne) (fun _ => ?_)
  exact wpAny_bind (h prog w E _ (wpAny_truthy_bool hq))
theorem eq_dict_none (hd : IsDct s.heap l) (hu : A.units < cLine) : RcAt A s (.ref l) .none false :=
  rc_dict_left (T := "NoneType") hd rfl (by decide) F.sub_NoneType_dict F.sub_dict_NoneType F.slot_NoneType_eq_refl hu
    (fun prog w E Q' hq => call_gives F.slot_NoneType_eq_refl rfl F.entry_NoneType_eq (F.args_NoneType_eq_2 _ _) (NoneType___eq___none_ref_0 l) hq)
    (fun prog w E Q' hq => wpAny_of_eq (rfl : isSame (.ref l) .none = pure false) hq)
theorem eq_none_dict (hd : IsDct s.heap l) (hu : A.units < cLine) : RcAt A s .none (.ref l) false :=
  rc_dict_right (T := "NoneType") hd rfl (by decide) F.sub_NoneType_dict F.sub_dict_NoneType F.slot_NoneType_eq hu
    (fun prog w E Q' hq => call_gives F.slot_NoneType_eq rfl F.entry_NoneType_eq (F.args_NoneType_eq_2 _ _) (NoneType___eq___none_ref_0 l) hq)
    (fun prog w E Q' hq => wpAny_of_eq (rfl : isSame .none (.ref l) = pure false) hq)
theorem eq_dict_bool (b : Bool) (hd : IsDct s.heap l) (hu : A.units < cLine) : RcAt A s (.ref l) (.bool b) false := by
  obtain ⟨dd, es, n, sl, ho⟩ := id hd
  exact rc_dict_left (T := "bool") hd rfl (by decide) F.sub_bool_dict F.sub_dict_bool F.slot_bool_eq_refl hu
    (fun prog w E Q' hq => call_meets F.slot_bool_eq_refl rfl F.entry_int_eq (F.args_int_eq_2 _ _) (bool_eq_dct b l dd es n sl) ⟨ho, hq⟩)
    (fun prog w E Q' hq => wpAny_of_eq (rfl : isSame (.ref l) (.bool b) = pure false) hq)
theorem eq_bool_dict (b : Bool) (hd : IsDct s.heap l) (hu : A.units < cLine) : RcAt A s (.bool b) (.ref l) false := by
  obtain ⟨dd, es, n, sl, ho⟩ := id hd
  exact rc_dict_right (T := "bool") hd rfl (by decide) F.sub_bool_dict F.sub_dict_bool F.slot_bool_eq hu
    (fun prog w E Q' hq => call_meets F.slot_bool_eq rfl F.entry_int_eq (F.args_int_eq_2 _ _) (bool_eq_dct b l dd es n sl) ⟨ho, hq⟩)
    (fun prog w E Q' hq => wpAny_of_eq (rfl : isSame (.bool b) (.ref l) = pure false) hq)
theorem eq_dict_int (i : Int) (t : Tok) (hd : IsDct s.heap l) (hu : A.units < cLine) : RcAt A s (.ref l) (.int i t) false := by
  obtain ⟨dd, es, n, sl, ho⟩ := id hd
  exact rc_dict_left (T := "int") hd (typeIs_int s i t) (by decide) F.sub_int_dict F.sub_dict_int F.slot_int_eq_refl hu
    (fun prog w E Q' hq => call_meets F.slot_int_eq_refl (typeIs_int s i t) F.entry_int_eq (F.args_int_eq_2 _ _) (int_eq_dct i t l dd es n sl) ⟨ho, hq⟩)
    (fun prog w E Q' hq => wpAny_of_eq (rfl : isSame (.ref l) (.int i t) = pure false) hq)
theorem eq_int_dict (i : Int) (t : Tok) (hd : IsDct s.heap l) (hu : A.units < cLine) : RcAt A s (.int i t) (.ref l) false := by
  obtain ⟨dd, es, n, sl, ho⟩ := id hd
  exact rc_dict_right (T := "int") hd (typeIs_int s i t) (by decide) F.sub_int_dict F.sub_dict_int F.slot_int_eq hu
    (fun prog w E Q' hq => call_meets F.slot_int_eq (typeIs_int s i t) F.entry_int_eq (F.args_int_eq_2 _ _) (int_eq_dct i t l dd es n sl) ⟨ho, hq⟩)
    (fun prog w E Q' hq => wpAny_of_eq (rfl : isSame (.int i t) (.ref l) = pure false) hq)
theorem eq_dict_str (x : Str) (t : Tok) (hd : IsDct s.heap l) (hu : A.units < cLine) : RcAt A s (.ref l) (.str x t) false := by
  obtain ⟨dd, es, n, sl, ho⟩ := id hd
  exact rc_dict_left (T := "str") hd (typeIs_str s x t) (by decide) F.sub_str_dict F.sub_dict_str F.slot_str_eq_refl hu
    (fun prog w E Q' hq => call_meets F.slot_str_eq_refl (typeIs_str s x t) F.entry_str_eq (F.args_str_eq_2 _ _) (str_eq_dct x t l dd es n sl) ⟨ho, hq⟩)
    (fun prog w E Q' hq => wpAny_of_eq (rfl : isSame (.ref l) (.str x t) = pure false) hq)
theorem eq_str_dict (x : Str) (t : Tok) (hd : IsDct s.heap l) (hu : A.units < cLine) : RcAt A s (.str x t) (.ref l) false := by
  obtain ⟨dd, es, n, sl, ho⟩ := id hd
  exact rc_dict_right (T := "str") hd (typeIs_str s x t) (by decide) F.sub_str_dict F.sub_dict_str F.slot_str_eq hu
    (fun prog w E Q' hq => call_meets F.slot_str_eq (typeIs_str s x t) F.entry_str_eq (F.args_str_eq_2 _ _) (str_eq_dct x t l dd es n sl) ⟨ho, hq⟩)
    (fun prog w E Q' hq => wpAny_of_eq (rfl : isSame (.str x t) (.ref l) = pure false) hq)
theorem ne_tup {t : Addr} {items : Array Value} (ht : s.heap.IsTuple t items) (hd : IsDct s.heap l) : t ≠ l := fun e => by
  subst e
  obtain ⟨o, ho, hc, _⟩ := ht
  obtain ⟨dd, es, n, sl, ho2⟩ := hd
  rw [ho] at ho2
  cases ho2
  exact absurd hc (by simp)
theorem ne_lst {t : Addr} {items : Array Value} (ht : s.heap.IsList t items) (hd : IsDct s.heap l) : t ≠ l := fun e => by
  subst e
  obtain ⟨o, ho, hc, _⟩ := ht
  obtain ⟨dd, es, n, sl, ho2⟩ := hd
  rw [ho] at ho2
  cases ho2
  exact absurd hc (by simp)
theorem eq_dict_tup {t : Addr} {items : Array Value} (ht : s.heap.IsTuple t items) (hd : IsDct s.heap l) (hu : A.units < cLine) : RcAt A s (.ref l) (.ref t) false := by
  have hne := ne_tup ht hd
  obtain ⟨dd, es, n, sl, ho⟩ := id hd
  obtain ⟨⟨cls, d1, data, s1⟩, ho2, hc, m, hd2⟩ := id ht
  simp only at hc hd2
  subst hc hd2
  exact rc_dict_left (T := "tuple") hd ⟨_, ho2, rfl⟩ (by decide) F.sub_tuple_dict F.sub_dict_tuple F.slot_tuple_eq_refl hu
    (fun prog w E Q' hq => call_meets F.slot_tuple_eq_refl ⟨_, ho2, rfl⟩ F.entry_tuple_eq (F.args_tuple_eq_2 _ _) (tuple_eq_dct t l items m d1 s1 dd es n sl) ⟨ho2, ho, hq⟩)
    (fun prog w E Q' hq => wpAny_isSame_ref_other (Ne.symm hne) ho ho2 (by simp) hq)
theorem eq_tup_dict {t : Addr} {items : Array Value} (ht : s.heap.IsTuple t items) (hd : IsDct s.heap l) (hu : A.units < cLine) : RcAt A s (.ref t) (.ref l) false := by
  have hne := ne_tup ht hd
  obtain ⟨dd, es, n, sl, ho⟩ := id hd
  obtain ⟨⟨cls, d1, data, s1⟩, ho2, hc, m, hd2⟩ := id ht
  simp only at hc hd2
  subst hc hd2
  exact rc_dict_right (T := "tuple") hd ⟨_, ho2, rfl⟩ (by decide) F.sub_tuple_dict F.sub_dict_tuple F.slot_tuple_eq hu
    (fun prog w E Q' hq => call_meets F.slot_tuple_eq ⟨_, ho2, rfl⟩ F.entry_tuple_eq (F.args_tuple_eq_2 _ _) (tuple_eq_dct t l items m d1 s1 dd es n sl) ⟨ho2, ho, hq⟩)
    (fun prog w E Q' hq => wpAny_isSame_ref_other' hne ho2 ho (by simp) hq)
theorem eq_dict_lst {t : Addr} {items : Array Value} (ht : s.heap.IsList t items) (hd : IsDct s.heap l) (hu : A.units < cLine) : RcAt A s (.ref l) (.ref t) false := by
  have hne := ne_lst ht hd
  obtain ⟨dd, es, n, sl, ho⟩ := id hd
  obtain ⟨⟨cls, d1, data, s1⟩, ho2, hc, m, hd2⟩ := id ht
  simp only at hc hd2
  subst hc hd2
  exact rc_dict_left (T := "list") hd ⟨_, ho2, rfl⟩ (by decide) F.sub_list_dict F.sub_dict_list F.slot_list_eq_refl hu
    (fun prog w E Q' hq => call_meets F.slot_list_eq_refl ⟨_, ho2, rfl⟩ F.entry_list_eq (F.args_list_eq_2 _ _) (list_eq_dct t l items m d1 s1 dd es n sl) ⟨ho2, ho, hq⟩)
    (fun prog w E Q' hq => wpAny_isSame_ref_other (Ne.symm hne) ho ho2 (by simp) hq)
theorem eq_lst_dict {t : Addr} {items : Array Value} (ht : s.heap.IsList t items) (hd : IsDct s.heap l) (hu : A.units < cLine) : RcAt A s (.ref t) (.ref l) false := by
  have hne := ne_lst ht hd
  obtain ⟨dd, es, n, sl, ho⟩ := id hd
  obtain ⟨⟨cls, d1, data, s1⟩, ho2, hc, m, hd2⟩ := id ht
  simp only at hc hd2
  subst hc hd2
  exact rc_dict_right (T := "list") hd ⟨_, ho2, rfl⟩ (by decide) F.sub_list_dict F.sub_dict_list F.slot_list_eq hu
    (fun prog w E Q' hq => call_meets F.slot_list_eq ⟨_, ho2, rfl⟩ F.entry_list_eq (F.args_list_eq_2 _ _) (list_eq_dct t l items m d1 s1 dd es n sl) ⟨ho2, ho, hq⟩)
    (fun prog w E Q' hq => wpAny_isSame_ref_other' hne ho2 ho (by simp) hq)
end
end Ev
set_option Elab.async false
set_option linter.all false
set_option maxRecDepth 100000
set_option maxHeartbeats 4000000
set_option autoImplicit false
/-! == and != of data, as the machine asks them. -/
namespace Ev
open PySem PySem.Spec PyProof.Rows L2
open PySem.W (EqTree)

/-! ### the objects behind the values -/
section
variable {C : Cx} {pins : List (Addr × Obj)} {σ : L2.St} {H : Hp} {s : Shared}
theorem lstObj (I : Inv C pins σ H s) {a : Addr} {vs : List V} (h : SqL C.K H a vs) : ∃ its : List Value, Vals vs its ∧ s.heap.IsList a its.toArray :=
  let ⟨its, r, p, _⟩ := I.list h; ⟨its, r, p.isList⟩
theorem tupObj (I : Inv C pins σ H s) {a : Addr} {vs : List V} (h : Rd H a (.tup vs)) : ∃ its : List Value, Vals vs its ∧ s.heap.IsTuple a its.toArray := by
  obtain ⟨its, r, p, _⟩ := I.tuple (.inl h)
  exact ⟨its, r, p⟩
theorem dctObj (I : Inv C pins σ H s) {a : Addr} {kvs : List (Key × V)} (h : Rd H a (.dK kvs)) :
    (a == sysModules) = false ∧ IsDct s.heap a ∧ ∃ ks : List (Key × Value), KV kvs ks ∧ s.heap.DictOf (mixKind C.prog C.w) a ks := by
  obtain ⟨z, hd, ks, r, d⟩ := dk_rd I.hok h
  refine ⟨hd, ?_, ks, r, d⟩
  obtain ⟨⟨c, dd, dt, sl⟩, es, ep, ho, ⟨h1, h2, h3⟩, h4, _⟩ := d
  simp only at h1 h2 h3 h4
  subst h1 h2 h3 h4
  exact ⟨_, _, _, _, ho⟩
theorem lst_tup {h : Heap} {a : Addr} {xs ys : Array Value} (p : h.IsList a xs) (q : h.IsTuple a ys) : False := by
  obtain ⟨o, ho, hc, _⟩ := p
  obtain ⟨o2, ho2, hc2, _⟩ := q
  rw [ho] at ho2
  cases ho2
  rw [hc] at hc2
  exact absurd hc2 (by simp)
theorem lst_dct {h : Heap} {a : Addr} {xs : Array Value} (p : h.IsList a xs) (q : IsDct h a) : False := by
  obtain ⟨o, ho, hc, _⟩ := p
  obtain ⟨_, _, _, _, ho2⟩ := q
  rw [ho] at ho2
  cases ho2
  exact absurd hc (by simp)
theorem tup_dct {h : Heap} {a : Addr} {xs : Array Value} (p : h.IsTuple a xs) (q : IsDct h a) : False := by
  obtain ⟨o, ho, hc, _⟩ := p
  obtain ⟨_, _, _, _, ho2⟩ := q
  rw [ho] at ho2
  cases ho2
  exact absurd hc (by simp)
theorem rd_dk_inj (I : Inv C pins σ H s) {a : Addr} {xs ys : List (Key × V)} (p : Rd H a (.dK xs)) (q : Rd H a (.dK ys)) : xs = ys := by
  rcases p with p | ⟨o, p⟩ <;> rcases q with q | ⟨o', q⟩ <;> (rw [p] at q; cases q) <;> rfl
theorem rd_tup_inj {H : Hp} {a : Addr} {xs ys : List V} (p : Rd H a (.tup xs)) (q : Rd H a (.tup ys)) : xs = ys := by
  rcases p with p | ⟨o, p⟩ <;> rcases q with q | ⟨o', q⟩ <;> (rw [p] at q; cases q) <;> rfl
end

theorem find_nodup {k : Str} {d : D} : ∀ {b : List (Str × D)}, (b.map (·.1)).Nodup → (k, d) ∈ b → b.find? (fun kv => decide (kv.1 = k)) = some (k, d)
  | [], _, h => nomatch h
  | p :: r, nd, h => by
    rw [List.map_cons, List.nodup_cons] at nd
    rcases List.mem_cons.mp h with e | h
    · rw [← e]; simp
    · have ne : ¬ p.1 = k := fun z => nd.1 (z ▸ List.mem_map.mpr ⟨_, h, rfl⟩)
      rw [List.find?_cons_of_neg (by simpa using ne)]
      exact find_nodup nd.2 h
theorem eqvD_self {b : List (Str × D)} (nd : (b.map (·.1)).Nodup) : ∀ l : List (Str × D), (∀ p ∈ l, p ∈ b) → (∀ p ∈ l, D.eqv p.2 p.2 = true) → D.eqvD l b = true
  | [], _, _ => by unfold D.eqvD; rfl
  | (k, d) :: r, hm, he => by
    unfold D.eqvD
    rw [find_nodup nd (hm _ List.mem_cons_self), eqvD_self nd r (fun p hp => hm p (List.mem_cons_of_mem _ hp)) fun p hp => he p (List.mem_cons_of_mem _ hp)]
    simpa using he _ List.mem_cons_self
section
variable {C : Cx} {pins : List (Addr × Obj)} {σ : L2.St} {H : Hp} {s : Shared} {O O' : Addr → Prop}
/-- a dict's keys differ -/
theorem keys_nodup (I : Inv C pins σ H s) {a : Addr} {kvs : List (Key × V)} (h : Rd H a (.dK kvs)) {ks : List (Str × D)} (l : AtD O H ks kvs) : (ks.map (·.1)).Nodup := by
  obtain ⟨_, _, vs, r, d⟩ := dctObj I h
  obtain ⟨_, _, _, _, _, _, _, _, nd⟩ := d
  rw [← r.keys, l.keys] at nd
  have e : (ks.map fun kv => (Sum.inr kv.1 : Key)) = (ks.map (·.1)).map Sum.inr := by rw [List.map_map]; rfl
  rw [e] at nd
  exact (List.pairwise_map.mp nd).imp fun h z => h (congrArg Sum.inr z)
mutual
theorem eqv_self (I : Inv C pins σ H s) : ∀ (d : D) (v : V), Any C.K O H d v → D.eqv d d = true
  | .non, _, _ => by simp [D.eqv]
  | .bl b, _, _ => by simp [D.eqv]
  | .int i, _, _ => by simp [D.eqv]
  | .str x, _, _ => by simp [D.eqv]
  | .tup xs, _, ⟨_, vs, _, _, l⟩ => by simp only [D.eqv]; exact eqvL_self I xs vs l
  | .lst xs, _, ⟨_, vs, _, _, l⟩ => by simp only [D.eqv]; exact eqvL_self I xs vs l
  | .dct ks, _, ⟨_, vs, _, r, l⟩ => by
    simp only [D.eqv, beq_self_eq_true, Bool.true_and]
    exact eqvD_self (keys_nodup I r l) ks (fun _ h => h) (eqvD_selves I ks vs l)
theorem eqvL_self (I : Inv C pins σ H s) : ∀ (xs : List D) (vs : List V), AtL O H xs vs → D.eqvL xs xs = true
  | [], _, _ => by simp [D.eqvL]
  | x :: xs, _, h => by
    unfold AtL at h
    obtain ⟨v, r, _, a, l⟩ := h
    unfold D.eqvL
    rw [eqv_self I x v a.any, eqvL_self I xs r l]
    rfl
theorem eqvD_selves (I : Inv C pins σ H s) : ∀ (ks : List (Str × D)) (vs : List (Key × V)), AtD O H ks vs → ∀ p ∈ ks, D.eqv p.2 p.2 = true
  | [], _, _, _, h => nomatch h
  | (k, d) :: ks, _, h, p, hp => by
    unfold AtD at h
    obtain ⟨v, r, _, a, l⟩ := h
    rcases List.mem_cons.mp hp with e | hp
    · rw [e]; exact eqv_self I d v a.any
    · exact eqvD_selves I ks r l p hp
end
mutual
/-- one value stands for one thing -/
theorem any_det (I : Inv C pins σ H s) : ∀ (d e : D) (v : V), Any C.K O H d v → Any C.K O' H e v → d = e
  | .non, e, v, h, q => by
    have h : v = .non := h
    subst h
    cases e <;> first
      | rfl
      | (exact nomatch (show V.non = _ from q))
      | (obtain ⟨_, _, z, _⟩ := q; exact nomatch z)
  | .bl b, e, v, h, q => by
    have h : v = .bl b := h
    subst h
    cases e <;> first
      | (cases (show V.bl b = V.bl _ from q); rfl)
      | (exact nomatch (show V.bl b = _ from q))
      | (obtain ⟨_, _, z, _⟩ := q; exact nomatch z)
  | .int b, e, v, h, q => by
    have h : v = .int b := h
    subst h
    cases e <;> first
      | (cases (show V.int b = V.int _ from q); rfl)
      | (exact nomatch (show V.int b = _ from q))
      | (obtain ⟨_, _, z, _⟩ := q; exact nomatch z)
  | .str b, e, v, h, q => by
    have h : v = .str b := h
    subst h
    cases e <;> first
      | (cases (show V.str b = V.str _ from q); rfl)
      | (exact nomatch (show V.str b = _ from q))
      | (obtain ⟨_, _, z, _⟩ := q; exact nomatch z)
  | .tup xs, e, v, ⟨a, vs, ev, r, l⟩, q => by
    subst ev
    obtain ⟨its, rv, t⟩ := tupObj I r
    cases e with
    | non => exact nomatch (show V.ref a = _ from q)
    | bl _ => exact nomatch (show V.ref a = _ from q)
    | int _ => exact nomatch (show V.ref a = _ from q)
    | str _ => exact nomatch (show V.ref a = _ from q)
    | tup ys =>
      obtain ⟨a', vs', ev, r', l'⟩ := q
      cases ev
      cases rd_tup_inj r r'
      rw [anyL_det I xs ys vs l l']
    | lst ys =>
      obtain ⟨a', vs', ev, r', l'⟩ := q
      cases ev
      obtain ⟨_, _, t'⟩ := lstObj I r'
      exact (lst_tup t' t).elim
    | dct ys =>
      obtain ⟨a', vs', ev, r', l'⟩ := q
      cases ev
      obtain ⟨_, t', _⟩ := dctObj I r'
      exact (tup_dct t t').elim
  | .lst xs, e, v, ⟨a, vs, ev, r, l⟩, q => by
    subst ev
    obtain ⟨its, rv, t⟩ := lstObj I r
    cases e with
    | non => exact nomatch (show V.ref a = _ from q)
    | bl _ => exact nomatch (show V.ref a = _ from q)
    | int _ => exact nomatch (show V.ref a = _ from q)
    | str _ => exact nomatch (show V.ref a = _ from q)
    | lst ys =>
      obtain ⟨a', vs', ev, r', l'⟩ := q
      cases ev
      cases I.list_inj r r'
      rw [anyL_det I xs ys vs l l']
    | tup ys =>
      obtain ⟨a', vs', ev, r', l'⟩ := q
      cases ev
      obtain ⟨_, _, t'⟩ := tupObj I r'
      exact (lst_tup t t').elim
    | dct ys =>
      obtain ⟨a', vs', ev, r', l'⟩ := q
      cases ev
      obtain ⟨_, t', _⟩ := dctObj I r'
      exact (lst_dct t t').elim
  | .dct xs, e, v, ⟨a, vs, ev, r, l⟩, q => by
    subst ev
    obtain ⟨_, t, _⟩ := dctObj I r
    cases e with
    | non => exact nomatch (show V.ref a = _ from q)
    | bl _ => exact nomatch (show V.ref a = _ from q)
    | int _ => exact nomatch (show V.ref a = _ from q)
    | str _ => exact nomatch (show V.ref a = _ from q)
    | lst ys =>
      obtain ⟨a', vs', ev, r', l'⟩ := q
      cases ev
      obtain ⟨_, _, t'⟩ := lstObj I r'
      exact (lst_dct t' t).elim
    | tup ys =>
      obtain ⟨a', vs', ev, r', l'⟩ := q
      cases ev
      obtain ⟨_, _, t'⟩ := tupObj I r'
      exact (tup_dct t' t).elim
    | dct ys =>
      obtain ⟨a', vs', ev, r', l'⟩ := q
      cases ev
      cases rd_dk_inj I r r'
      rw [anyD_det I xs ys vs l l']
theorem anyL_det (I : Inv C pins σ H s) : ∀ (ds es : List D) (vs : List V), AtL O H ds vs → AtL O' H es vs → ds = es
  | [], es, vs, h, q => by
    unfold AtL at h
    subst h
    cases es with
    | nil => rfl
    | cons e es => unfold AtL at q; obtain ⟨_, _, z, _⟩ := q; exact nomatch z
  | d :: ds, es, vs, h, q => by
    unfold AtL at h
    obtain ⟨v, r, ev, a, l⟩ := h
    subst ev
    cases es with
    | nil => unfold AtL at q; exact nomatch q
    | cons e es =>
      unfold AtL at q
      obtain ⟨v', r', z, a', l'⟩ := q
      cases z
      rw [any_det I d e v a.any a'.any, anyL_det I ds es r l l']
theorem anyD_det (I : Inv C pins σ H s) : ∀ (ds es : List (Str × D)) (vs : List (Key × V)), AtD O H ds vs → AtD O' H es vs → ds = es
  | [], es, vs, h, q => by
    unfold AtD at h
    subst h
    cases es with
    | nil => rfl
    | cons e es => obtain ⟨k, e⟩ := e; unfold AtD at q; obtain ⟨_, _, z, _⟩ := q; exact nomatch z
  | (k, d) :: ds, es, vs, h, q => by
    unfold AtD at h
    obtain ⟨v, r, ev, a, l⟩ := h
    subst ev
    cases es with
    | nil => unfold AtD at q; exact nomatch q
    | cons e es =>
      obtain ⟨k', e⟩ := e
      unfold AtD at q
      obtain ⟨v', r', z, a', l'⟩ := q
      cases z
      rw [any_det I d e v a.any a'.any, anyD_det I ds es r l l']
end

/-! ### == -/
theorem dep_le {x : D} : ∀ {xs : List D}, x ∈ xs → x.dep ≤ D.depL xs
  | [], h => nomatch h
  | y :: ys, h => by
    unfold D.depL
    rcases List.mem_cons.mp h with e | h
    · rw [e]; exact Nat.le_max_left _ _
    · exact Nat.le_trans (dep_le h) (Nat.le_max_right _ _)
theorem depD_le {p : Str × D} : ∀ {xs : List (Str × D)}, p ∈ xs → p.2.dep ≤ D.depD xs
  | [], h => nomatch h
  | (k, y) :: ys, h => by
    unfold D.depD
    rcases List.mem_cons.mp h with e | h
    · rw [e]; exact Nat.le_max_left _ _
    · exact Nat.le_trans (depD_le h) (Nat.le_max_right _ _)
theorem eqvL_len : ∀ {xs ys : List D}, xs.length ≠ ys.length → D.eqvL xs ys = false
  | [], [], h => absurd rfl h
  | [], _ :: _, _ => by unfold D.eqvL; rfl
  | _ :: _, [], _ => by unfold D.eqvL; rfl
  | x :: xs, y :: ys, h => by
    unfold D.eqvL
    rw [eqvL_len (xs := xs) (ys := ys) fun z => h (congrArg (· + 1) z), Bool.and_false]
theorem eqvL_range : ∀ (xs ys : List D), ((List.range (min xs.length ys.length)).all (fun j => D.eqv (xs.getD j .non) (ys.getD j .non)) && decide (xs.length = ys.length)) = D.eqvL xs ys
  | [], [] => by unfold D.eqvL; rfl
  | [], _ :: _ => by unfold D.eqvL; simp
  | _ :: _, [] => by unfold D.eqvL; simp
  | x :: xs, y :: ys => by
    unfold D.eqvL
    rw [← eqvL_range xs ys]
    have e : min (x :: xs).length (y :: ys).length = min xs.length ys.length + 1 := by simp only [List.length_cons]; omega
    rw [e, List.range_succ_eq_map, List.all_cons, List.all_map]
    simp only [List.getD_cons_zero, List.length_cons, Nat.add_right_cancel_iff, Bool.and_assoc]
    rfl
theorem eqvD_all : ∀ (xs ys : List (Str × D)), D.eqvD xs ys = xs.all fun p => match ys.find? (fun kv => decide (kv.1 = p.1)) with | some kv => D.eqv p.2 kv.2 | none => false
  | [], _ => by unfold D.eqvD; rfl
  | (k, v) :: r, ys => by
    unfold D.eqvD
    rw [eqvD_all r ys, List.all_cons]
    first | done | rfl
theorem pairs_at {O : Addr → Prop} {H : Hp} {k : Key} {u : Value} : ∀ {ks : List (Str × D)} {kvs : List (Key × V)} {us : List (Key × Value)}, AtD O H ks kvs → KV kvs us → (k, u) ∈ us →
    ∃ x d v, k = Sum.inr x ∧ (x, d) ∈ ks ∧ At O H d v ∧ RelV v u
  | [], _, us, h, r, m => by
    unfold AtD at h
    subst h
    cases r
    exact nomatch m
  | (x, d) :: ks, _, us, h, r, m => by
    unfold AtD at h
    obtain ⟨v, rest, e, a, l⟩ := h
    subst e
    cases r with
    | cons r1 r2 =>
      rename_i q qs
      rcases List.mem_cons.mp m with e | m
      · obtain ⟨e1, e2⟩ := r1
        rw [← e] at e1 e2
        exact ⟨x, d, v, e1.symm, List.mem_cons_self, a, e2⟩
      · obtain ⟨y, d', v', h1, h2, h3, h4⟩ := pairs_at l r2 m
        exact ⟨y, d', v', h1, List.mem_cons_of_mem _ h2, h3, h4⟩
/-- what is looked up, by the machine and by us -/
theorem look_at {O : Addr → Prop} {H : Hp} {x : Str} {ks : List (Str × D)} {kvs : List (Key × V)} {us : List (Key × Value)} (h : AtD O H ks kvs) (r : KV kvs us) :
    (look ks x = none ∧ valueAt us (Sum.inr x) = none) ∨ ∃ d v u, look ks x = some d ∧ valueAt us (Sum.inr x) = some u ∧ At O H d v ∧ RelV v u := by
  have q := r.val (Sum.inr x)
  rcases h.look x with ⟨e1, e2⟩ | ⟨d, v, e1, e2, a⟩
  · rw [e2] at q
    exact .inl ⟨e1, q.none_of⟩
  · rw [e2] at q
    obtain ⟨u, e3, r3⟩ := q.some_of
    exact .inr ⟨d, v, u, e1, e3, a, r3⟩
theorem look_mem {x : Str} {d : D} : ∀ {ks : List (Str × D)}, look ks x = some d → ∃ p ∈ ks, p.2 = d
  | ks, h => by
    unfold look at h
    cases e : ks.find? (fun kv => decide (kv.1 = x)) with
    | none => rw [e] at h; cases h
    | some p => rw [e] at h; cases h; exact ⟨p, List.mem_of_find?_eq_some e, rfl⟩

section
variable {C : Cx} {pins : List (Addr × Obj)} {σ : L2.St} {H : Hp} {s : Shared} {O O' : Addr → Prop}
theorem leafT {n : Nat} {v u : Value} {b : Bool} (h : ∀ A : Around, A.units < cLine → SeqAt.EqAt A s v u b) : EqTree C.prog C.w s n v u b := .leaf fun A hu => h A (by omega)
theorem vals_ix {xs : List D} {vs : List V} {us : List Value} (l : AtL O H xs vs) (r : Vals vs us) (j : Nat) (hj : j < us.length) : ∃ v, At O H (xs.getD j .non) v ∧ RelV v us[j] ∧ xs.getD j .non ∈ xs := by
  have e1 := l.length
  have e2 := r.length
  have hx : j < xs.length := by omega
  obtain ⟨v, ev, a⟩ := l.get (i := j) (d := xs[j]) (List.getElem?_eq_getElem hx)
  obtain ⟨u, eu, ru⟩ := r.get ev
  rw [List.getElem?_eq_getElem hj] at eu
  cases eu
  have e3 : xs.getD j .non = xs[j] := by simp [List.getD, hx]
  rw [e3]
  exact ⟨v, a, ru, List.getElem_mem hx⟩
theorem size_of {xs : List D} {vs : List V} {us : List Value} (l : AtL O H xs vs) (r : Vals vs us) : us.toArray.size = xs.length := by
  rw [List.size_toArray, ← r.length, l.length]

/-- two of one make that hold other things -/
def sameMake : D → D → Bool
  | .tup _, .tup _ => true
  | .lst _, .lst _ => true
  | .dct _, .dct _ => true
  | _, _ => false
theorem eqLeaf (I : Inv C pins σ H s) (A : Around) (hu : A.units < cLine) (d e : D) (v w : V) (u u' : Value) (h : Any C.K O H d v) (r : RelV v u) (q : Any C.K O' H e w) (r' : RelV w u')
    (hn : sameMake d e = false) : SeqAt.EqAt A s u u' (D.eqv d e) := by
  cases d with
  | non =>
    have h : v = .non := h
    subst h
    cases (show u = Value.none from r)
    cases e with
    | non =>
      have q : w = .non := q
      subst q
      cases (show u' = Value.none from r')
      simp only [D.eqv]
      exact SeqAt.EqAt.same _
    | bl y =>
      have q : w = .bl y := q
      subst q
      cases (show u' = Value.bool y from r')
      simp only [D.eqv]
      exact SeqAt.EqAt.none_bool y
    | int y =>
      have q : w = .int y := q
      subst q
      obtain ⟨ty, ey⟩ := (show ∃ t, u' = Value.int y t from r')
      subst ey
      simp only [D.eqv]
      exact SeqAt.EqAt.none_int y ty
    | str y =>
      have q : w = .str y := q
      subst q
      obtain ⟨ty, ey⟩ := (show ∃ t, u' = Value.str y t from r')
      subst ey
      simp only [D.eqv]
      exact SeqAt.EqAt.none_str y ty
    | tup y =>
      obtain ⟨ay, vsy, ey, hry, ly⟩ := q
      subst ey
      cases (show u' = Value.ref ay from r')
      obtain ⟨_, _, oy⟩ := tupObj I hry
      simp only [D.eqv]
      exact SeqAt.EqAt.none_tuple oy hu
    | lst y =>
      obtain ⟨ay, vsy, ey, hry, ly⟩ := q
      subst ey
      cases (show u' = Value.ref ay from r')
      obtain ⟨_, _, oy⟩ := lstObj I hry
      simp only [D.eqv]
      exact SeqAt.EqAt.none_list oy hu
    | dct y =>
      obtain ⟨ay, vsy, ey, hry, ly⟩ := q
      subst ey
      cases (show u' = Value.ref ay from r')
      obtain ⟨_, oy, _⟩ := dctObj I hry
      simp only [D.eqv]
      exact eqAt_of_rc (fun z => nomatch z) (fun _ _ z => nomatch z) (eq_none_dict oy hu)
  | bl x =>
    have h : v = .bl x := h
    subst h
    cases (show u = Value.bool x from r)
    cases e with
    | non =>
      have q : w = .non := q
      subst q
      cases (show u' = Value.none from r')
      simp only [D.eqv]
      exact SeqAt.EqAt.bool_none x
    | bl y =>
      have q : w = .bl y := q
      subst q
      cases (show u' = Value.bool y from r')
      simp only [D.eqv]
      exact SeqAt.EqAt.bool_bool x y
    | int y =>
      have q : w = .int y := q
      subst q
      obtain ⟨ty, ey⟩ := (show ∃ t, u' = Value.int y t from r')
      subst ey
      simp only [D.eqv]
      exact SeqAt.EqAt.bool_int x y ty
    | str y =>
      have q : w = .str y := q
      subst q
      obtain ⟨ty, ey⟩ := (show ∃ t, u' = Value.str y t from r')
      subst ey
      simp only [D.eqv]
      exact SeqAt.EqAt.bool_str x y ty
    | tup y =>
      obtain ⟨ay, vsy, ey, hry, ly⟩ := q
      subst ey
      cases (show u' = Value.ref ay from r')
      obtain ⟨_, _, oy⟩ := tupObj I hry
      simp only [D.eqv]
      exact SeqAt.EqAt.bool_tuple x oy hu
    | lst y =>
      obtain ⟨ay, vsy, ey, hry, ly⟩ := q
      subst ey
      cases (show u' = Value.ref ay from r')
      obtain ⟨_, _, oy⟩ := lstObj I hry
      simp only [D.eqv]
      exact SeqAt.EqAt.bool_list x oy hu
    | dct y =>
      obtain ⟨ay, vsy, ey, hry, ly⟩ := q
      subst ey
      cases (show u' = Value.ref ay from r')
      obtain ⟨_, oy, _⟩ := dctObj I hry
      simp only [D.eqv]
      exact eqAt_of_rc (fun z => nomatch z) (fun _ _ z => nomatch z) (eq_bool_dict x oy hu)
  | int x =>
    have h : v = .int x := h
    subst h
    obtain ⟨tx, ex⟩ := (show ∃ t, u = Value.int x t from r)
    subst ex
    cases e with
    | non =>
      have q : w = .non := q
      subst q
      cases (show u' = Value.none from r')
      simp only [D.eqv]
      exact SeqAt.EqAt.int_none x tx
    | bl y =>
      have q : w = .bl y := q
      subst q
      cases (show u' = Value.bool y from r')
      simp only [D.eqv]
      exact SeqAt.EqAt.int_bool x tx y
    | int y =>
      have q : w = .int y := q
      subst q
      obtain ⟨ty, ey⟩ := (show ∃ t, u' = Value.int y t from r')
      subst ey
      simp only [D.eqv]
      exact SeqAt.EqAt.int_int x tx y ty
    | str y =>
      have q : w = .str y := q
      subst q
      obtain ⟨ty, ey⟩ := (show ∃ t, u' = Value.str y t from r')
      subst ey
      simp only [D.eqv]
      exact SeqAt.EqAt.int_str x tx y ty
    | tup y =>
      obtain ⟨ay, vsy, ey, hry, ly⟩ := q
      subst ey
      cases (show u' = Value.ref ay from r')
      obtain ⟨_, _, oy⟩ := tupObj I hry
      simp only [D.eqv]
      exact SeqAt.EqAt.int_tuple x tx oy hu
    | lst y =>
      obtain ⟨ay, vsy, ey, hry, ly⟩ := q
      subst ey
      cases (show u' = Value.ref ay from r')
      obtain ⟨_, _, oy⟩ := lstObj I hry
      simp only [D.eqv]
      exact SeqAt.EqAt.int_list x tx oy hu
    | dct y =>
      obtain ⟨ay, vsy, ey, hry, ly⟩ := q
      subst ey
      cases (show u' = Value.ref ay from r')
      obtain ⟨_, oy, _⟩ := dctObj I hry
      simp only [D.eqv]
      exact eqAt_of_rc (fun z => nomatch z) (fun _ _ z => nomatch z) (eq_int_dict x tx oy hu)
  | str x =>
    have h : v = .str x := h
    subst h
    obtain ⟨tx, ex⟩ := (show ∃ t, u = Value.str x t from r)
    subst ex
    cases e with
    | non =>
      have q : w = .non := q
      subst q
      cases (show u' = Value.none from r')
      simp only [D.eqv]
      exact SeqAt.EqAt.str_none x tx
    | bl y =>
      have q : w = .bl y := q
      subst q
      cases (show u' = Value.bool y from r')
      simp only [D.eqv]
      exact SeqAt.EqAt.str_bool x tx y
    | int y =>
      have q : w = .int y := q
      subst q
      obtain ⟨ty, ey⟩ := (show ∃ t, u' = Value.int y t from r')
      subst ey
      simp only [D.eqv]
      exact SeqAt.EqAt.str_int x tx y ty
    | str y =>
      have q : w = .str y := q
      subst q
      obtain ⟨ty, ey⟩ := (show ∃ t, u' = Value.str y t from r')
      subst ey
      have z := SeqAt.EqAt.str_str (A := A) (s := s) x tx y ty
      simp only [D.eqv]
      rw [Bool.beq_eq_decide_eq] at z
      exact z
    | tup y =>
      obtain ⟨ay, vsy, ey, hry, ly⟩ := q
      subst ey
      cases (show u' = Value.ref ay from r')
      obtain ⟨_, _, oy⟩ := tupObj I hry
      simp only [D.eqv]
      exact SeqAt.EqAt.str_tuple x tx oy hu
    | lst y =>
      obtain ⟨ay, vsy, ey, hry, ly⟩ := q
      subst ey
      cases (show u' = Value.ref ay from r')
      obtain ⟨_, _, oy⟩ := lstObj I hry
      simp only [D.eqv]
      exact SeqAt.EqAt.str_list x tx oy hu
    | dct y =>
      obtain ⟨ay, vsy, ey, hry, ly⟩ := q
      subst ey
      cases (show u' = Value.ref ay from r')
      obtain ⟨_, oy, _⟩ := dctObj I hry
      simp only [D.eqv]
      exact eqAt_of_rc (fun z => nomatch z) (fun _ _ z => nomatch z) (eq_str_dict x tx oy hu)
  | tup x =>
    obtain ⟨ax, vsx, ex, hrx, lx⟩ := h
    subst ex
    cases (show u = Value.ref ax from r)
    obtain ⟨_, _, ox⟩ := tupObj I hrx
    cases e with
    | non =>
      have q : w = .non := q
      subst q
      cases (show u' = Value.none from r')
      simp only [D.eqv]
      exact SeqAt.EqAt.tuple_none ox hu
    | bl y =>
      have q : w = .bl y := q
      subst q
      cases (show u' = Value.bool y from r')
      simp only [D.eqv]
      exact SeqAt.EqAt.tuple_bool y ox hu
    | int y =>
      have q : w = .int y := q
      subst q
      obtain ⟨ty, ey⟩ := (show ∃ t, u' = Value.int y t from r')
      subst ey
      simp only [D.eqv]
      exact SeqAt.EqAt.tuple_int y ty ox hu
    | str y =>
      have q : w = .str y := q
      subst q
      obtain ⟨ty, ey⟩ := (show ∃ t, u' = Value.str y t from r')
      subst ey
      simp only [D.eqv]
      exact SeqAt.EqAt.tuple_str y ty ox hu
    | tup y =>
      exact absurd hn (by simp [sameMake])
    | lst y =>
      obtain ⟨ay, vsy, ey, hry, ly⟩ := q
      subst ey
      cases (show u' = Value.ref ay from r')
      obtain ⟨_, _, oy⟩ := lstObj I hry
      simp only [D.eqv]
      exact SeqAt.EqAt.tuple_list ox oy hu
    | dct y =>
      obtain ⟨ay, vsy, ey, hry, ly⟩ := q
      subst ey
      cases (show u' = Value.ref ay from r')
      obtain ⟨_, oy, _⟩ := dctObj I hry
      simp only [D.eqv]
      exact SeqAt.EqAt.of_refs (ne_tup ox oy) (eq_tup_dict ox oy hu)
  | lst x =>
    obtain ⟨ax, vsx, ex, hrx, lx⟩ := h
    subst ex
    cases (show u = Value.ref ax from r)
    obtain ⟨_, _, ox⟩ := lstObj I hrx
    cases e with
    | non =>
      have q : w = .non := q
      subst q
      cases (show u' = Value.none from r')
      simp only [D.eqv]
      exact SeqAt.EqAt.list_none ox hu
    | bl y =>
      have q : w = .bl y := q
      subst q
      cases (show u' = Value.bool y from r')
      simp only [D.eqv]
      exact SeqAt.EqAt.list_bool y ox hu
    | int y =>
      have q : w = .int y := q
      subst q
      obtain ⟨ty, ey⟩ := (show ∃ t, u' = Value.int y t from r')
      subst ey
      simp only [D.eqv]
      exact SeqAt.EqAt.list_int y ty ox hu
    | str y =>
      have q : w = .str y := q
      subst q
      obtain ⟨ty, ey⟩ := (show ∃ t, u' = Value.str y t from r')
      subst ey
      simp only [D.eqv]
      exact SeqAt.EqAt.list_str y ty ox hu
    | tup y =>
      obtain ⟨ay, vsy, ey, hry, ly⟩ := q
      subst ey
      cases (show u' = Value.ref ay from r')
      obtain ⟨_, _, oy⟩ := tupObj I hry
      simp only [D.eqv]
      exact SeqAt.EqAt.list_tuple ox oy hu
    | lst y =>
      exact absurd hn (by simp [sameMake])
    | dct y =>
      obtain ⟨ay, vsy, ey, hry, ly⟩ := q
      subst ey
      cases (show u' = Value.ref ay from r')
      obtain ⟨_, oy, _⟩ := dctObj I hry
      simp only [D.eqv]
      exact SeqAt.EqAt.of_refs (ne_lst ox oy) (eq_lst_dict ox oy hu)
  | dct x =>
    obtain ⟨ax, vsx, ex, hrx, lx⟩ := h
    subst ex
    cases (show u = Value.ref ax from r)
    obtain ⟨_, ox, _⟩ := dctObj I hrx
    cases e with
    | non =>
      have q : w = .non := q
      subst q
      cases (show u' = Value.none from r')
      simp only [D.eqv]
      exact eqAt_of_rcL (fun z => nomatch z) (eq_dict_none ox hu)
    | bl y =>
      have q : w = .bl y := q
      subst q
      cases (show u' = Value.bool y from r')
      simp only [D.eqv]
      exact eqAt_of_rcL (fun z => nomatch z) (eq_dict_bool y ox hu)
    | int y =>
      have q : w = .int y := q
      subst q
      obtain ⟨ty, ey⟩ := (show ∃ t, u' = Value.int y t from r')
      subst ey
      simp only [D.eqv]
      exact eqAt_of_rcL (fun z => nomatch z) (eq_dict_int y ty ox hu)
    | str y =>
      have q : w = .str y := q
      subst q
      obtain ⟨ty, ey⟩ := (show ∃ t, u' = Value.str y t from r')
      subst ey
      simp only [D.eqv]
      exact eqAt_of_rcL (fun z => nomatch z) (eq_dict_str y ty ox hu)
    | tup y =>
      obtain ⟨ay, vsy, ey, hry, ly⟩ := q
      subst ey
      cases (show u' = Value.ref ay from r')
      obtain ⟨_, _, oy⟩ := tupObj I hry
      simp only [D.eqv]
      exact SeqAt.EqAt.of_refs (Ne.symm (ne_tup oy ox)) (eq_dict_tup oy ox hu)
    | lst y =>
      obtain ⟨ay, vsy, ey, hry, ly⟩ := q
      subst ey
      cases (show u' = Value.ref ay from r')
      obtain ⟨_, _, oy⟩ := lstObj I hry
      simp only [D.eqv]
      exact SeqAt.EqAt.of_refs (Ne.symm (ne_lst oy ox)) (eq_dict_lst oy ox hu)
    | dct y =>
      exact absurd hn (by simp [sameMake])

theorem dct_parts (I : Inv C pins σ H s) {n : Nat} {xs ys : List (Str × D)} {a b : Addr} {vs ws : List (Key × V)} (hr : Rd H a (.dK vs)) (l : AtD O H xs vs) (hq : Rd H b (.dK ws)) (m : AtD O' H ys ws) (hn : min (D.depD xs) (D.depD ys) ≤ n)
    (ih : ∀ (d e : D) (v w : V) (u u' : Value), Any C.K O H d v → RelV v u → Any C.K O' H e w → RelV w u' → min d.dep e.dep ≤ n → EqTree C.prog C.w s n u u' (D.eqv d e)) :
    ∃ (us zs : List (Key × Value)) (f : Key → Bool), s.heap.DictOf (mixKind C.prog C.w) a us ∧ s.heap.DictOf (mixKind C.prog C.w) b zs ∧
      (∀ k v y, (k, v) ∈ us → valueAt zs k = some y → EqTree C.prog C.w s n v y (f k)) ∧ (us.length == zs.length && us.all fun p => (valueAt zs p.1).isSome && f p.1) = D.eqv (.dct xs) (.dct ys) := by
  obtain ⟨s1, _, us, rv, o⟩ := dctObj I hr
  obtain ⟨s2, _, zs, rw', o'⟩ := dctObj I hq
  let f : Key → Bool := fun k => match k with
    | .inl _ => false
    | .inr x => D.eqv ((look xs x).getD .non) ((look ys x).getD .non)
  have t : ∀ k v y, (k, v) ∈ us → valueAt zs k = some y → EqTree C.prog C.w s n v y (f k) := fun k v y hm hv => by
    obtain ⟨x, d, v1, ek, hd, a1, r1⟩ := pairs_at l rv hm
    subst ek
    rcases look_at (x := x) m rw' with ⟨_, e2⟩ | ⟨d2, v2, u2, e1, e2, a2, r2⟩
    · rw [e2] at hv; cases hv
    · rw [e2] at hv
      cases hv
      have nd := keys_nodup I hr l
      have e0 : look xs x = some d := by unfold look; rw [find_nodup nd hd]; rfl
      show EqTree _ _ _ _ _ _ (D.eqv ((look xs x).getD .non) ((look ys x).getD .non))
      rw [e0, e1]
      refine ih _ _ _ _ _ _ a1.any r1 a2.any r2 ?_
      have d1 := depD_le hd
      obtain ⟨p, hp, ep⟩ := look_mem e1
      have d2 := depD_le hp
      rw [ep] at d2
      simp only [Option.getD_some]
      simp only at d1
      omega
  have n1 : us.length = xs.length := by rw [← rv.length, ← l.length]
  have n2 : zs.length = ys.length := by rw [← rw'.length, ← m.length]
  have g : (us.all fun p => (valueAt zs p.1).isSome && f p.1) = D.eqvD xs ys := by
    rw [eqvD_all]
    have key : ∀ (ks : List (Str × D)) (kvs : List (Key × V)) (us' : List (Key × Value)), AtD O H ks kvs → KV kvs us' → (∀ p ∈ ks, p ∈ xs) →
        (us'.all fun p => (valueAt zs p.1).isSome && f p.1) = ks.all fun p => match ys.find? (fun kv => decide (kv.1 = p.1)) with | some kv => D.eqv p.2 kv.2 | none => false := by
      intro ks
      induction ks with
      | nil =>
        intro kvs us' hl hk _
        unfold AtD at hl
        subst hl
        cases hk
        rfl
      | cons p ks ihk =>
        intro kvs us' hl hk hsub
        obtain ⟨x, d⟩ := p
        unfold AtD at hl
        obtain ⟨v1, rest, e1, a1, l1⟩ := hl
        subst e1
        cases hk with
        | cons r1 r2 =>
          rename_i q1 qs
          obtain ⟨k1, u1⟩ := q1
          obtain ⟨e1, r1⟩ := r1
          have e1 : Sum.inr x = k1 := e1
          subst e1
          rw [List.all_cons, List.all_cons, ihk rest qs l1 r2 fun p hp => hsub p (List.mem_cons_of_mem _ hp)]
          refine congrArg (· && _) ?_
          have nd := keys_nodup I hr l
          have e0 : look xs x = some d := by unfold look; rw [find_nodup nd (hsub _ List.mem_cons_self)]; rfl
          show ((valueAt zs (Sum.inr x)).isSome && D.eqv ((look xs x).getD .non) ((look ys x).getD .non)) = _
          rw [e0]
          rcases look_at (x := x) m rw' with ⟨e2, e3⟩ | ⟨d2, v2, u2, e2, e3, a2, r2⟩
          · rw [e3]
            unfold look at e2
            cases ef : ys.find? (fun kv => decide (kv.1 = x)) with
            | none => rfl
            | some p => rw [ef] at e2; cases e2
          · rw [e3, e2]
            unfold look at e2
            cases ef : ys.find? (fun kv => decide (kv.1 = x)) with
            | none => rw [ef] at e2; cases e2
            | some p => rw [ef] at e2; cases e2; rfl
    exact key xs vs us l rv fun _ h => h
  refine ⟨us, zs, f, o, o', t, ?_⟩
  simp only [D.eqv]
  rw [n1, n2, g]
theorem eqT (I : Inv C pins σ H s) : ∀ (n : Nat) (d e : D) (v w : V) (u u' : Value), Any C.K O H d v → RelV v u → Any C.K O' H e w → RelV w u' → min d.dep e.dep ≤ n → EqTree C.prog C.w s n u u' (D.eqv d e) := by
  intro n
  induction n with
  | zero =>
    intro d e v w u u' h r q r' hn
    refine leafT fun A hu => eqLeaf I A hu d e v w u u' h r q r' ?_
    cases d <;> cases e <;> first
      | rfl
      | (simp only [D.dep] at hn; omega)
  | succ n ih =>
    intro d e v w u u' h r q r' hn
    cases hm : sameMake d e with
    | false => exact leafT fun A hu => eqLeaf I A hu d e v w u u' h r q r' hm
    | true =>
      cases d <;> cases e <;> first
        | (exact nomatch (show false = true from hm))
        | skip
      case tup.tup xs ys =>
        obtain ⟨a, vs, e1, hr, l⟩ := h
        obtain ⟨b, ws, e2, hq, m⟩ := q
        subst e1 e2
        cases (show u = Value.ref a from r)
        cases (show u' = Value.ref b from r')
        by_cases hab : a = b
        · subst hab
          have e := any_det I (.tup xs) (.tup ys) (.ref a) ⟨a, vs, rfl, hr, l⟩ ⟨a, ws, rfl, hq, m⟩
          cases e
          rw [eqv_self I (.tup xs) (.ref a) ⟨a, vs, rfl, hr, l⟩]
          exact .same
        · obtain ⟨is, rv, o⟩ := tupObj I hr
          obtain ⟨js, rw', o'⟩ := tupObj I hq
          have t := EqTree.tuples (prog := C.prog) (w := C.w) (s := s) (n := n) (e := fun j => D.eqv (xs.getD j .non) (ys.getD j .non)) hab o o' fun j h1 h2 => by
            obtain ⟨v1, a1, r1, m1⟩ := vals_ix l rv j (by simpa using h1)
            obtain ⟨v2, a2, r2, m2⟩ := vals_ix m rw' j (by simpa using h2)
            have z := ih _ _ _ _ _ _ a1.any r1 a2.any r2 (by
              have d1 := dep_le m1
              have d2 := dep_le m2
              simp only [D.dep] at hn
              omega)
            simpa using z
          rw [size_of l rv, size_of m rw', Bool.beq_eq_decide_eq, eqvL_range] at t
          simp only [D.eqv]
          exact t
      case lst.lst xs ys =>
        obtain ⟨a, vs, e1, hr, l⟩ := h
        obtain ⟨b, ws, e2, hq, m⟩ := q
        subst e1 e2
        cases (show u = Value.ref a from r)
        cases (show u' = Value.ref b from r')
        by_cases hab : a = b
        · subst hab
          have e := any_det I (.lst xs) (.lst ys) (.ref a) ⟨a, vs, rfl, hr, l⟩ ⟨a, ws, rfl, hq, m⟩
          cases e
          rw [eqv_self I (.lst xs) (.ref a) ⟨a, vs, rfl, hr, l⟩]
          exact .same
        · obtain ⟨is, rv, o⟩ := lstObj I hr
          obtain ⟨js, rw', o'⟩ := lstObj I hq
          have s1 := size_of l rv
          have s2 := size_of m rw'
          simp only [D.eqv]
          by_cases hl : xs.length = ys.length
          · have t := EqTree.lists (prog := C.prog) (w := C.w) (s := s) (n := n) (e := fun j => D.eqv (xs.getD j .non) (ys.getD j .non)) hab o o' (by omega) fun j h1 h2 => by
              obtain ⟨v1, a1, r1, m1⟩ := vals_ix l rv j (by simpa using h1)
              obtain ⟨v2, a2, r2, m2⟩ := vals_ix m rw' j (by simpa using h2)
              have z := ih _ _ _ _ _ _ a1.any r1 a2.any r2 (by
                have d1 := dep_le m1
                have d2 := dep_le m2
                simp only [D.dep] at hn
                omega)
              simpa using z
            have g := eqvL_range xs ys
            rw [← hl, Nat.min_self, decide_eq_true rfl, Bool.and_true] at g
            rw [s1, g] at t
            exact t
          · rw [eqvL_len hl]
            exact .listsLen hab o o' (by simp only [bne_iff_ne, ne_eq]; omega)
      case dct.dct xs ys =>
        obtain ⟨a, vs, e1, hr, l⟩ := h
        obtain ⟨b, ws, e2, hq, m⟩ := q
        subst e1 e2
        cases (show u = Value.ref a from r)
        cases (show u' = Value.ref b from r')
        by_cases hab : a = b
        · subst hab
          have e := any_det I (.dct xs) (.dct ys) (.ref a) ⟨a, vs, rfl, hr, l⟩ ⟨a, ws, rfl, hq, m⟩
          cases e
          rw [eqv_self I (.dct xs) (.ref a) ⟨a, vs, rfl, hr, l⟩]
          exact .same
        · obtain ⟨us, zs, f, o, o', t, g⟩ := dct_parts I (n := n) hr l hq m (by simp only [D.dep] at hn; omega) ih
          have z := EqTree.dicts (prog := C.prog) (w := C.w) (s := s) (n := n) (e := f) hab (dctObj I hr).1 (dctObj I hq).1 o o' t
          rw [g] at z
          exact z
end
end
end Ev
set_option Elab.async false
set_option linter.all false
set_option maxRecDepth 100000
set_option maxHeartbeats 4000000
set_option autoImplicit false
/-! == and != as the operators ask them. -/
namespace Ev
open PySem PySem.Spec PyProof.Rows L2
open PySem.W (EqTree)
open PySem.SeqAt (EqIn)
section
variable {prog : Program} {w : World}
/-- the items of two tuples, one beside the other -/
abbrev zipped (xs ys : Array Value) : List (Value × Value) := xs.toList.zip ys.toList
theorem tup_ne (a b : Addr) (xs ys : Array Value) (m n : Nat) (d1 d2 : Option Addr) (s1 s2 : Array (Option Value)) (e : Nat → Bool) :
    MeetsIn prog w (Builtin.«tuple.__ne__» ⟨[.ref a, .ref b], []⟩)
      (fun A R s => s.heap.get? a = some { cls := .type "tuple", dict := d1, data := .seq xs m, slots := s1 } ∧
        s.heap.get? b = some { cls := .type "tuple", dict := d2, data := .seq ys n, slots := s2 } ∧
        (∀ j (h1 : j < xs.size) (h2 : j < ys.size), EqIn prog w A.in1 s xs[j] ys[j] (e j)) ∧
        R (.ok (.ret (.bool (!((List.range (min xs.size ys.size)).all e && xs.size == ys.size))))) s) :=
  .of_wp fun A R s h => by
    obtain ⟨hp, g, d, tk, os⟩ := s
    obtain ⟨ha, hb, he, h⟩ := h
    have f2 := AutoSeq1.sub_tuple_tuple
    have len : (zipped xs ys).length = min xs.size ys.size := by simp [zipped]
    wp_walk using AutoSeq1.wpAny_loadPart' ha, AutoSeq1.wpAny_loadPart' hb,
      wpAny_forIn_list _ (fun rest q s' => q.1 = none ∧ s' = ⟨hp, g, d, tk, os⟩ ∧ ∃ i, rest = (zipped xs ys).drop i ∧
        R (.ok (.ret (.bool (!(((List.range (min xs.size ys.size)).drop i).all e && xs.size == ys.size))))) ⟨hp, g, d, tk, os⟩) _
    case turn =>
      rintro ⟨y, x⟩ rest q s' ⟨hq, rfl, i, hz, hR⟩
      have lt : i < (zipped xs ys).length := by
        rcases Nat.lt_or_ge i (zipped xs ys).length with k | k
        · exact k
        · rw [List.drop_of_length_le k] at hz
          cases hz
      have lm : i < min xs.size ys.size := len ▸ lt
      have l1 : i < xs.size := Nat.lt_of_lt_of_le lm (Nat.min_le_left _ _)
      have l2 : i < ys.size := Nat.lt_of_lt_of_le lm (Nat.min_le_right _ _)
      rw [List.drop_eq_getElem_cons lt] at hz
      injection hz with hh ht
      have hy : y = xs[i] := by simpa [zipped] using congrArg Prod.fst hh
      have hx : x = ys[i] := by simpa [zipped] using congrArg Prod.snd hh
      subst hy hx
      have hd : (List.range (min xs.size ys.size)).drop i = i :: (List.range (min xs.size ys.size)).drop (i + 1) := by
        simp [List.drop_eq_getElem_cons, lm]
      rw [hd, List.all_cons] at hR
      refine wpAny_bind (he i l1 l2 _ _ ?_)
      cases hi : e i with
      | true =>
        rw [hi] at hR
        wp_walk
        exact ⟨rfl, rfl, i + 1, ht, by simpa using hR⟩
      | false =>
        rw [hi] at hR
        wp_walk
        rw [Bool.false_and, Bool.false_and] at hR
        exact ⟨_, rfl, hR⟩
    case fin =>
      rintro ⟨b1, b2⟩ s' ⟨hq, rfl, i, hz, hR⟩
      simp only at hq
      subst hq
      have ge : min xs.size ys.size ≤ i := by
        rcases Nat.lt_or_ge i (zipped xs ys).length with k | k
        · rw [List.drop_eq_getElem_cons k] at hz
          cases hz
        · exact len ▸ k
      rw [List.drop_of_length_le (by simpa using ge)] at hR
      wp_walk
      refine ⟨_, rfl, ?_⟩
      simp only [Builtin.Tuple.tupleCompareSizes, bne] at hR ⊢
      simpa using hR
    case h =>
      exact ⟨rfl, rfl, 0, rfl, by simpa using h⟩
theorem tups_ne {A : Around} {s : Shared} {E : Value → Shared → Prop} {a b : Addr} {xs ys : Array Value} {e : Nat → Bool} {Q : Value → Shared → Prop} (ha : s.heap.IsTuple a xs) (hb : s.heap.IsTuple b ys) (hu : A.units < cLine)
    (he : ∀ j (h1 : j < xs.size) (h2 : j < ys.size), EqIn prog w A.in1 s xs[j] ys[j] (e j))
    (h : Q (.bool (!((List.range (min xs.size ys.size)).all e && xs.size == ys.size))) s) : wpAny (model prog w) A (compareOp .NotEq (.ref a) (.ref b)) Q E s := by
  obtain ⟨⟨c1, d1, t1, s1⟩, o1, e1, m, q1⟩ := id ha
  obtain ⟨⟨c2, d2, t2, s2⟩, o2, e2, n, q2⟩ := id hb
  simp only at e1 q1 e2 q2
  subst e1 q1 e2 q2
  have fin : ∀ k : Bool, Q (.bool k) s → Value.bool k ≠ Value.notImplemented ∧ Q (.bool k) s := fun k q => ⟨fun z => (nomatch z), q⟩
  exact wpAny_richCompare_same_room (T := "tuple") (op := .NotEq) ⟨_, o1, rfl⟩ ⟨_, o2, rfl⟩ F.slot_tuple_ne
    (call_meetsIn F.slot_tuple_ne ⟨_, o1, rfl⟩ F.entry_tuple_ne (F.args_tuple_ne_2 _ _) (tup_ne a b xs ys m n d1 d2 s1 s2 e) ⟨o1, o2, he, fin _ h⟩) hu
end
section
variable {C : Cx} {pins : List (Addr × Obj)} {σ : L2.St} {H : Hp} {s : Shared} {O O' : Addr → Prop}
theorem rcLeaf (I : Inv C pins σ H s) (A : Around) (hu : A.units < cLine) (d e : D) (v w : V) (u u' : Value) (h : Any C.K O H d v) (r : RelV v u) (q : Any C.K O' H e w) (r' : RelV w u')
    (hn : sameMake d e = false) : SeqAt.RcAt A s u u' (D.eqv d e) := by
  cases d with
  | non =>
    have h : v = .non := h
    subst h
    cases (show u = Value.none from r)
    cases e with
    | non =>
      have q : w = .non := q
      subst q
      cases (show u' = Value.none from r')
      simp only [D.eqv]
      exact SeqAt.RcAt.none_none
    | bl y =>
      have q : w = .bl y := q
      subst q
      cases (show u' = Value.bool y from r')
      simp only [D.eqv]
      exact SeqAt.RcAt.none_bool y
    | int y =>
      have q : w = .int y := q
      subst q
      obtain ⟨ty, ey⟩ := (show ∃ t, u' = Value.int y t from r')
      subst ey
      simp only [D.eqv]
      exact SeqAt.RcAt.none_int y ty
    | str y =>
      have q : w = .str y := q
      subst q
      obtain ⟨ty, ey⟩ := (show ∃ t, u' = Value.str y t from r')
      subst ey
      simp only [D.eqv]
      exact SeqAt.RcAt.none_str y ty
    | tup y =>
      obtain ⟨ay, vsy, ey, hry, ly⟩ := q
      subst ey
      cases (show u' = Value.ref ay from r')
      obtain ⟨_, _, oy⟩ := tupObj I hry
      simp only [D.eqv]
      exact SeqAt.RcAt.none_tuple oy hu
    | lst y =>
      obtain ⟨ay, vsy, ey, hry, ly⟩ := q
      subst ey
      cases (show u' = Value.ref ay from r')
      obtain ⟨_, _, oy⟩ := lstObj I hry
      simp only [D.eqv]
      exact SeqAt.RcAt.none_list oy hu
    | dct y =>
      obtain ⟨ay, vsy, ey, hry, ly⟩ := q
      subst ey
      cases (show u' = Value.ref ay from r')
      obtain ⟨_, oy, _⟩ := dctObj I hry
      simp only [D.eqv]
      exact eq_none_dict oy hu
  | bl x =>
    have h : v = .bl x := h
    subst h
    cases (show u = Value.bool x from r)
    cases e with
    | non =>
      have q : w = .non := q
      subst q
      cases (show u' = Value.none from r')
      simp only [D.eqv]
      exact SeqAt.RcAt.bool_none x
    | bl y =>
      have q : w = .bl y := q
      subst q
      cases (show u' = Value.bool y from r')
      simp only [D.eqv]
      exact SeqAt.RcAt.bool_bool x y
    | int y =>
      have q : w = .int y := q
      subst q
      obtain ⟨ty, ey⟩ := (show ∃ t, u' = Value.int y t from r')
      subst ey
      simp only [D.eqv]
      exact SeqAt.RcAt.bool_int x y ty
    | str y =>
      have q : w = .str y := q
      subst q
      obtain ⟨ty, ey⟩ := (show ∃ t, u' = Value.str y t from r')
      subst ey
      simp only [D.eqv]
      exact SeqAt.RcAt.bool_str x y ty
    | tup y =>
      obtain ⟨ay, vsy, ey, hry, ly⟩ := q
      subst ey
      cases (show u' = Value.ref ay from r')
      obtain ⟨_, _, oy⟩ := tupObj I hry
      simp only [D.eqv]
      exact SeqAt.RcAt.bool_tuple x oy hu
    | lst y =>
      obtain ⟨ay, vsy, ey, hry, ly⟩ := q
      subst ey
      cases (show u' = Value.ref ay from r')
      obtain ⟨_, _, oy⟩ := lstObj I hry
      simp only [D.eqv]
      exact SeqAt.RcAt.bool_list x oy hu
    | dct y =>
      obtain ⟨ay, vsy, ey, hry, ly⟩ := q
      subst ey
      cases (show u' = Value.ref ay from r')
      obtain ⟨_, oy, _⟩ := dctObj I hry
      simp only [D.eqv]
      exact eq_bool_dict x oy hu
  | int x =>
    have h : v = .int x := h
    subst h
    obtain ⟨tx, ex⟩ := (show ∃ t, u = Value.int x t from r)
    subst ex
    cases e with
    | non =>
      have q : w = .non := q
      subst q
      cases (show u' = Value.none from r')
      simp only [D.eqv]
      exact SeqAt.RcAt.int_none x tx
    | bl y =>
      have q : w = .bl y := q
      subst q
      cases (show u' = Value.bool y from r')
      simp only [D.eqv]
      exact SeqAt.RcAt.int_bool x tx y
    | int y =>
      have q : w = .int y := q
      subst q
      obtain ⟨ty, ey⟩ := (show ∃ t, u' = Value.int y t from r')
      subst ey
      simp only [D.eqv]
      exact SeqAt.RcAt.int_int x tx y ty
    | str y =>
      have q : w = .str y := q
      subst q
      obtain ⟨ty, ey⟩ := (show ∃ t, u' = Value.str y t from r')
      subst ey
      simp only [D.eqv]
      exact SeqAt.RcAt.int_str x tx y ty
    | tup y =>
      obtain ⟨ay, vsy, ey, hry, ly⟩ := q
      subst ey
      cases (show u' = Value.ref ay from r')
      obtain ⟨_, _, oy⟩ := tupObj I hry
      simp only [D.eqv]
      exact SeqAt.RcAt.int_tuple x tx oy hu
    | lst y =>
      obtain ⟨ay, vsy, ey, hry, ly⟩ := q
      subst ey
      cases (show u' = Value.ref ay from r')
      obtain ⟨_, _, oy⟩ := lstObj I hry
      simp only [D.eqv]
      exact SeqAt.RcAt.int_list x tx oy hu
    | dct y =>
      obtain ⟨ay, vsy, ey, hry, ly⟩ := q
      subst ey
      cases (show u' = Value.ref ay from r')
      obtain ⟨_, oy, _⟩ := dctObj I hry
      simp only [D.eqv]
      exact eq_int_dict x tx oy hu
  | str x =>
    have h : v = .str x := h
    subst h
    obtain ⟨tx, ex⟩ := (show ∃ t, u = Value.str x t from r)
    subst ex
    cases e with
    | non =>
      have q : w = .non := q
      subst q
      cases (show u' = Value.none from r')
      simp only [D.eqv]
      exact SeqAt.RcAt.str_none x tx
    | bl y =>
      have q : w = .bl y := q
      subst q
      cases (show u' = Value.bool y from r')
      simp only [D.eqv]
      exact SeqAt.RcAt.str_bool x tx y
    | int y =>
      have q : w = .int y := q
      subst q
      obtain ⟨ty, ey⟩ := (show ∃ t, u' = Value.int y t from r')
      subst ey
      simp only [D.eqv]
      exact SeqAt.RcAt.str_int x tx y ty
    | str y =>
      have q : w = .str y := q
      subst q
      obtain ⟨ty, ey⟩ := (show ∃ t, u' = Value.str y t from r')
      subst ey
      have z := SeqAt.RcAt.str_str (A := A) (s := s) x tx y ty
      simp only [D.eqv]
      rw [Bool.beq_eq_decide_eq] at z
      exact z
    | tup y =>
      obtain ⟨ay, vsy, ey, hry, ly⟩ := q
      subst ey
      cases (show u' = Value.ref ay from r')
      obtain ⟨_, _, oy⟩ := tupObj I hry
      simp only [D.eqv]
      exact SeqAt.RcAt.str_tuple x tx oy hu
    | lst y =>
      obtain ⟨ay, vsy, ey, hry, ly⟩ := q
      subst ey
      cases (show u' = Value.ref ay from r')
      obtain ⟨_, _, oy⟩ := lstObj I hry
      simp only [D.eqv]
      exact SeqAt.RcAt.str_list x tx oy hu
    | dct y =>
      obtain ⟨ay, vsy, ey, hry, ly⟩ := q
      subst ey
      cases (show u' = Value.ref ay from r')
      obtain ⟨_, oy, _⟩ := dctObj I hry
      simp only [D.eqv]
      exact eq_str_dict x tx oy hu
  | tup x =>
    obtain ⟨ax, vsx, ex, hrx, lx⟩ := h
    subst ex
    cases (show u = Value.ref ax from r)
    obtain ⟨_, _, ox⟩ := tupObj I hrx
    cases e with
    | non =>
      have q : w = .non := q
      subst q
      cases (show u' = Value.none from r')
      simp only [D.eqv]
      exact SeqAt.RcAt.tuple_none ox hu
    | bl y =>
      have q : w = .bl y := q
      subst q
      cases (show u' = Value.bool y from r')
      simp only [D.eqv]
      exact SeqAt.RcAt.tuple_bool y ox hu
    | int y =>
      have q : w = .int y := q
      subst q
      obtain ⟨ty, ey⟩ := (show ∃ t, u' = Value.int y t from r')
      subst ey
      simp only [D.eqv]
      exact SeqAt.RcAt.tuple_int y ty ox hu
    | str y =>
      have q : w = .str y := q
      subst q
      obtain ⟨ty, ey⟩ := (show ∃ t, u' = Value.str y t from r')
      subst ey
      simp only [D.eqv]
      exact SeqAt.RcAt.tuple_str y ty ox hu
    | tup y =>
      exact nomatch (show true = false from hn)
    | lst y =>
      obtain ⟨ay, vsy, ey, hry, ly⟩ := q
      subst ey
      cases (show u' = Value.ref ay from r')
      obtain ⟨_, _, oy⟩ := lstObj I hry
      simp only [D.eqv]
      exact SeqAt.RcAt.tuple_list ox oy hu
    | dct y =>
      obtain ⟨ay, vsy, ey, hry, ly⟩ := q
      subst ey
      cases (show u' = Value.ref ay from r')
      obtain ⟨_, oy, _⟩ := dctObj I hry
      simp only [D.eqv]
      exact eq_tup_dict ox oy hu
  | lst x =>
    obtain ⟨ax, vsx, ex, hrx, lx⟩ := h
    subst ex
    cases (show u = Value.ref ax from r)
    obtain ⟨_, _, ox⟩ := lstObj I hrx
    cases e with
    | non =>
      have q : w = .non := q
      subst q
      cases (show u' = Value.none from r')
      simp only [D.eqv]
      exact SeqAt.RcAt.list_none ox hu
    | bl y =>
      have q : w = .bl y := q
      subst q
      cases (show u' = Value.bool y from r')
      simp only [D.eqv]
      exact SeqAt.RcAt.list_bool y ox hu
    | int y =>
      have q : w = .int y := q
      subst q
      obtain ⟨ty, ey⟩ := (show ∃ t, u' = Value.int y t from r')
      subst ey
      simp only [D.eqv]
      exact SeqAt.RcAt.list_int y ty ox hu
    | str y =>
      have q : w = .str y := q
      subst q
      obtain ⟨ty, ey⟩ := (show ∃ t, u' = Value.str y t from r')
      subst ey
      simp only [D.eqv]
      exact SeqAt.RcAt.list_str y ty ox hu
    | tup y =>
      obtain ⟨ay, vsy, ey, hry, ly⟩ := q
      subst ey
      cases (show u' = Value.ref ay from r')
      obtain ⟨_, _, oy⟩ := tupObj I hry
      simp only [D.eqv]
      exact SeqAt.RcAt.list_tuple ox oy hu
    | lst y =>
      exact nomatch (show true = false from hn)
    | dct y =>
      obtain ⟨ay, vsy, ey, hry, ly⟩ := q
      subst ey
      cases (show u' = Value.ref ay from r')
      obtain ⟨_, oy, _⟩ := dctObj I hry
      simp only [D.eqv]
      exact eq_lst_dict ox oy hu
  | dct x =>
    obtain ⟨ax, vsx, ex, hrx, lx⟩ := h
    subst ex
    cases (show u = Value.ref ax from r)
    obtain ⟨_, ox, _⟩ := dctObj I hrx
    cases e with
    | non =>
      have q : w = .non := q
      subst q
      cases (show u' = Value.none from r')
      simp only [D.eqv]
      exact eq_dict_none ox hu
    | bl y =>
      have q : w = .bl y := q
      subst q
      cases (show u' = Value.bool y from r')
      simp only [D.eqv]
      exact eq_dict_bool y ox hu
    | int y =>
      have q : w = .int y := q
      subst q
      obtain ⟨ty, ey⟩ := (show ∃ t, u' = Value.int y t from r')
      subst ey
      simp only [D.eqv]
      exact eq_dict_int y ty ox hu
    | str y =>
      have q : w = .str y := q
      subst q
      obtain ⟨ty, ey⟩ := (show ∃ t, u' = Value.str y t from r')
      subst ey
      simp only [D.eqv]
      exact eq_dict_str y ty ox hu
    | tup y =>
      obtain ⟨ay, vsy, ey, hry, ly⟩ := q
      subst ey
      cases (show u' = Value.ref ay from r')
      obtain ⟨_, _, oy⟩ := tupObj I hry
      simp only [D.eqv]
      exact eq_dict_tup oy ox hu
    | lst y =>
      obtain ⟨ay, vsy, ey, hry, ly⟩ := q
      subst ey
      cases (show u' = Value.ref ay from r')
      obtain ⟨_, _, oy⟩ := lstObj I hry
      simp only [D.eqv]
      exact eq_dict_lst oy ox hu
    | dct y =>
      exact nomatch (show true = false from hn)
theorem neLeaf (I : Inv C pins σ H s) (A : Around) (hu : A.units < cLine) (d e : D) (v w : V) (u u' : Value) (h : Any C.K O H d v) (r : RelV v u) (q : Any C.K O' H e w) (r' : RelV w u')
    (hn : sameMake d e = false) (hk : neOk d e = true) : SeqAt.RcNeAt A s u u' (!D.eqv d e) := by
  cases d with
  | non =>
    have h : v = .non := h
    subst h
    cases (show u = Value.none from r)
    cases e with
    | non =>
      have q : w = .non := q
      subst q
      cases (show u' = Value.none from r')
      simp only [D.eqv]
      exact SeqAt.RcNeAt.none_none
    | bl y =>
      have q : w = .bl y := q
      subst q
      cases (show u' = Value.bool y from r')
      simp only [D.eqv]
      exact SeqAt.RcNeAt.none_bool y
    | int y =>
      have q : w = .int y := q
      subst q
      obtain ⟨ty, ey⟩ := (show ∃ t, u' = Value.int y t from r')
      subst ey
      simp only [D.eqv]
      exact SeqAt.RcNeAt.none_int y ty
    | str y =>
      have q : w = .str y := q
      subst q
      obtain ⟨ty, ey⟩ := (show ∃ t, u' = Value.str y t from r')
      subst ey
      simp only [D.eqv]
      exact SeqAt.RcNeAt.none_str y ty
    | tup y =>
      obtain ⟨ay, vsy, ey, hry, ly⟩ := q
      subst ey
      cases (show u' = Value.ref ay from r')
      obtain ⟨_, _, oy⟩ := tupObj I hry
      simp only [D.eqv]
      exact SeqAt.RcNeAt.none_tuple oy hu
    | lst y =>
      obtain ⟨ay, vsy, ey, hry, ly⟩ := q
      subst ey
      cases (show u' = Value.ref ay from r')
      obtain ⟨_, _, oy⟩ := lstObj I hry
      simp only [D.eqv]
      exact SeqAt.RcNeAt.none_list oy hu
    | dct y =>
      exact nomatch (show false = true from hk)
  | bl x =>
    have h : v = .bl x := h
    subst h
    cases (show u = Value.bool x from r)
    cases e with
    | non =>
      have q : w = .non := q
      subst q
      cases (show u' = Value.none from r')
      simp only [D.eqv]
      exact SeqAt.RcNeAt.bool_none x
    | bl y =>
      have q : w = .bl y := q
      subst q
      cases (show u' = Value.bool y from r')
      simp only [D.eqv]
      exact SeqAt.RcNeAt.bool_bool x y
    | int y =>
      have q : w = .int y := q
      subst q
      obtain ⟨ty, ey⟩ := (show ∃ t, u' = Value.int y t from r')
      subst ey
      simp only [D.eqv]
      exact SeqAt.RcNeAt.bool_int x y ty
    | str y =>
      have q : w = .str y := q
      subst q
      obtain ⟨ty, ey⟩ := (show ∃ t, u' = Value.str y t from r')
      subst ey
      simp only [D.eqv]
      exact SeqAt.RcNeAt.bool_str x y ty
    | tup y =>
      obtain ⟨ay, vsy, ey, hry, ly⟩ := q
      subst ey
      cases (show u' = Value.ref ay from r')
      obtain ⟨_, _, oy⟩ := tupObj I hry
      simp only [D.eqv]
      exact SeqAt.RcNeAt.bool_tuple x oy hu
    | lst y =>
      obtain ⟨ay, vsy, ey, hry, ly⟩ := q
      subst ey
      cases (show u' = Value.ref ay from r')
      obtain ⟨_, _, oy⟩ := lstObj I hry
      simp only [D.eqv]
      exact SeqAt.RcNeAt.bool_list x oy hu
    | dct y =>
      exact nomatch (show false = true from hk)
  | int x =>
    have h : v = .int x := h
    subst h
    obtain ⟨tx, ex⟩ := (show ∃ t, u = Value.int x t from r)
    subst ex
    cases e with
    | non =>
      have q : w = .non := q
      subst q
      cases (show u' = Value.none from r')
      simp only [D.eqv]
      exact SeqAt.RcNeAt.int_none x tx
    | bl y =>
      have q : w = .bl y := q
      subst q
      cases (show u' = Value.bool y from r')
      simp only [D.eqv]
      exact SeqAt.RcNeAt.int_bool x tx y
    | int y =>
      have q : w = .int y := q
      subst q
      obtain ⟨ty, ey⟩ := (show ∃ t, u' = Value.int y t from r')
      subst ey
      simp only [D.eqv]
      exact SeqAt.RcNeAt.int_int x tx y ty
    | str y =>
      have q : w = .str y := q
      subst q
      obtain ⟨ty, ey⟩ := (show ∃ t, u' = Value.str y t from r')
      subst ey
      simp only [D.eqv]
      exact SeqAt.RcNeAt.int_str x tx y ty
    | tup y =>
      obtain ⟨ay, vsy, ey, hry, ly⟩ := q
      subst ey
      cases (show u' = Value.ref ay from r')
      obtain ⟨_, _, oy⟩ := tupObj I hry
      simp only [D.eqv]
      exact SeqAt.RcNeAt.int_tuple x tx oy hu
    | lst y =>
      obtain ⟨ay, vsy, ey, hry, ly⟩ := q
      subst ey
      cases (show u' = Value.ref ay from r')
      obtain ⟨_, _, oy⟩ := lstObj I hry
      simp only [D.eqv]
      exact SeqAt.RcNeAt.int_list x tx oy hu
    | dct y =>
      exact nomatch (show false = true from hk)
  | str x =>
    have h : v = .str x := h
    subst h
    obtain ⟨tx, ex⟩ := (show ∃ t, u = Value.str x t from r)
    subst ex
    cases e with
    | non =>
      have q : w = .non := q
      subst q
      cases (show u' = Value.none from r')
      simp only [D.eqv]
      exact SeqAt.RcNeAt.str_none x tx
    | bl y =>
      have q : w = .bl y := q
      subst q
      cases (show u' = Value.bool y from r')
      simp only [D.eqv]
      exact SeqAt.RcNeAt.str_bool x tx y
    | int y =>
      have q : w = .int y := q
      subst q
      obtain ⟨ty, ey⟩ := (show ∃ t, u' = Value.int y t from r')
      subst ey
      simp only [D.eqv]
      exact SeqAt.RcNeAt.str_int x tx y ty
    | str y =>
      have q : w = .str y := q
      subst q
      obtain ⟨ty, ey⟩ := (show ∃ t, u' = Value.str y t from r')
      subst ey
      have z := SeqAt.RcNeAt.str_str (A := A) (s := s) x tx y ty
      simp only [D.eqv]
      rw [Bool.beq_eq_decide_eq] at z
      exact z
    | tup y =>
      obtain ⟨ay, vsy, ey, hry, ly⟩ := q
      subst ey
      cases (show u' = Value.ref ay from r')
      obtain ⟨_, _, oy⟩ := tupObj I hry
      simp only [D.eqv]
      exact SeqAt.RcNeAt.str_tuple x tx oy hu
    | lst y =>
      obtain ⟨ay, vsy, ey, hry, ly⟩ := q
      subst ey
      cases (show u' = Value.ref ay from r')
      obtain ⟨_, _, oy⟩ := lstObj I hry
      simp only [D.eqv]
      exact SeqAt.RcNeAt.str_list x tx oy hu
    | dct y =>
      exact nomatch (show false = true from hk)
  | tup x =>
    obtain ⟨ax, vsx, ex, hrx, lx⟩ := h
    subst ex
    cases (show u = Value.ref ax from r)
    obtain ⟨_, _, ox⟩ := tupObj I hrx
    cases e with
    | non =>
      have q : w = .non := q
      subst q
      cases (show u' = Value.none from r')
      simp only [D.eqv]
      exact SeqAt.RcNeAt.tuple_none ox hu
    | bl y =>
      have q : w = .bl y := q
      subst q
      cases (show u' = Value.bool y from r')
      simp only [D.eqv]
      exact SeqAt.RcNeAt.tuple_bool y ox hu
    | int y =>
      have q : w = .int y := q
      subst q
      obtain ⟨ty, ey⟩ := (show ∃ t, u' = Value.int y t from r')
      subst ey
      simp only [D.eqv]
      exact SeqAt.RcNeAt.tuple_int y ty ox hu
    | str y =>
      have q : w = .str y := q
      subst q
      obtain ⟨ty, ey⟩ := (show ∃ t, u' = Value.str y t from r')
      subst ey
      simp only [D.eqv]
      exact SeqAt.RcNeAt.tuple_str y ty ox hu
    | tup y =>
      exact nomatch (show true = false from hn)
    | lst y =>
      obtain ⟨ay, vsy, ey, hry, ly⟩ := q
      subst ey
      cases (show u' = Value.ref ay from r')
      obtain ⟨_, _, oy⟩ := lstObj I hry
      simp only [D.eqv]
      exact SeqAt.RcNeAt.tuple_list ox oy hu
    | dct y =>
      exact nomatch (show false = true from hk)
  | lst x =>
    obtain ⟨ax, vsx, ex, hrx, lx⟩ := h
    subst ex
    cases (show u = Value.ref ax from r)
    obtain ⟨_, _, ox⟩ := lstObj I hrx
    cases e with
    | non =>
      have q : w = .non := q
      subst q
      cases (show u' = Value.none from r')
      simp only [D.eqv]
      exact SeqAt.RcNeAt.list_none ox hu
    | bl y =>
      have q : w = .bl y := q
      subst q
      cases (show u' = Value.bool y from r')
      simp only [D.eqv]
      exact SeqAt.RcNeAt.list_bool y ox hu
    | int y =>
      have q : w = .int y := q
      subst q
      obtain ⟨ty, ey⟩ := (show ∃ t, u' = Value.int y t from r')
      subst ey
      simp only [D.eqv]
      exact SeqAt.RcNeAt.list_int y ty ox hu
    | str y =>
      have q : w = .str y := q
      subst q
      obtain ⟨ty, ey⟩ := (show ∃ t, u' = Value.str y t from r')
      subst ey
      simp only [D.eqv]
      exact SeqAt.RcNeAt.list_str y ty ox hu
    | tup y =>
      obtain ⟨ay, vsy, ey, hry, ly⟩ := q
      subst ey
      cases (show u' = Value.ref ay from r')
      obtain ⟨_, _, oy⟩ := tupObj I hry
      simp only [D.eqv]
      exact SeqAt.RcNeAt.list_tuple ox oy hu
    | lst y =>
      exact nomatch (show true = false from hn)
    | dct y =>
      exact nomatch (show false = true from hk)
  | dct x =>
    obtain ⟨ax, vsx, ex, hrx, lx⟩ := h
    subst ex
    cases (show u = Value.ref ax from r)
    obtain ⟨_, ox, _⟩ := dctObj I hrx
    cases e with
    | non =>
      exact nomatch (show false = true from hk)
    | bl y =>
      exact nomatch (show false = true from hk)
    | int y =>
      exact nomatch (show false = true from hk)
    | str y =>
      exact nomatch (show false = true from hk)
    | tup y =>
      exact nomatch (show false = true from hk)
    | lst y =>
      exact nomatch (show false = true from hk)
    | dct y =>
      exact nomatch (show true = false from hn)
theorem flat_leaf {d e : D} (h : d.flat = true) : sameMake d e = false := by cases d <;> first | rfl | (exact nomatch (show false = true from h))
theorem flat_dep {d : D} (h : d.flat = true) : d.dep = 0 := by cases d <;> first | (exact nomatch (show false = true from h)) | (simp only [D.dep])
theorem eqOk_le {d e : D} (h : eqOk d e = true) : min d.dep e.dep ≤ 150 := of_decide_eq_true h
/-- == of two lists, two tuples, two dicts -/
theorem eqTop (I : Inv C pins σ H s) (hu : C.A.units + 190 < cLine) (d e : D) (v w : V) (u u' : Value) (h : Any C.K O H d v) (r : RelV v u) (q : Any C.K O' H e w) (r' : RelV w u')
    (hk : eqOk d e = true) (E Q : Value → Shared → Prop) (hQ : Q (.bool (D.eqv d e)) s) : wpAny (model C.prog C.w) C.A (compareOp .Eq u u') Q E s := by
  have hn := eqOk_le hk
  cases hm : sameMake d e with
  | false => exact rcLeaf I C.A (by omega) d e v w u u' h r q r' hm C.prog C.w E Q hQ
  | true =>
    cases d <;> cases e <;> first
      | (exact nomatch (show false = true from hm))
      | skip
    case tup.tup xs ys =>
      obtain ⟨a, vs, e1, hr, l⟩ := h
      obtain ⟨b, ws, e2, hq, m⟩ := q
      subst e1 e2
      cases (show u = Value.ref a from r)
      cases (show u' = Value.ref b from r')
      obtain ⟨is, rv, o⟩ := tupObj I hr
      obtain ⟨js, rw', o'⟩ := tupObj I hq
      refine PySem.W.eq_tuplesT (n := 149) (e := fun j => D.eqv (xs.getD j .non) (ys.getD j .non)) o o' (fun j h1 h2 => ?_) (by omega) ?_
      · obtain ⟨v1, a1, r1, m1⟩ := vals_ix l rv j (by simpa using h1)
        obtain ⟨v2, a2, r2, m2⟩ := vals_ix m rw' j (by simpa using h2)
        have z := eqT I 149 _ _ _ _ _ _ a1.any r1 a2.any r2 (by
          have d1 := dep_le m1
          have d2 := dep_le m2
          simp only [D.dep] at hn
          omega)
        simpa using z
      · rw [size_of l rv, size_of m rw', Bool.beq_eq_decide_eq, eqvL_range]
        simp only [D.eqv] at hQ
        exact hQ
    case lst.lst xs ys =>
      obtain ⟨a, vs, e1, hr, l⟩ := h
      obtain ⟨b, ws, e2, hq, m⟩ := q
      subst e1 e2
      cases (show u = Value.ref a from r)
      cases (show u' = Value.ref b from r')
      obtain ⟨is, rv, o⟩ := lstObj I hr
      obtain ⟨js, rw', o'⟩ := lstObj I hq
      have s1 := size_of l rv
      have s2 := size_of m rw'
      simp only [D.eqv] at hQ
      by_cases hl : xs.length = ys.length
      · refine PySem.W.eq_listsT (n := 149) (e := fun j => D.eqv (xs.getD j .non) (ys.getD j .non)) o o' (by omega) (fun j h1 h2 => ?_) (by omega) ?_
        · obtain ⟨v1, a1, r1, m1⟩ := vals_ix l rv j (by simpa using h1)
          obtain ⟨v2, a2, r2, m2⟩ := vals_ix m rw' j (by simpa using h2)
          have z := eqT I 149 _ _ _ _ _ _ a1.any r1 a2.any r2 (by
            have d1 := dep_le m1
            have d2 := dep_le m2
            simp only [D.dep] at hn
            omega)
          simpa using z
        · have g := eqvL_range xs ys
          rw [← hl, Nat.min_self, decide_eq_true rfl, Bool.and_true] at g
          rw [s1, g]
          exact hQ
      · rw [eqvL_len hl] at hQ
        exact SeqAt.RcAt.lists_lengths o o' (by simp only [bne_iff_ne, ne_eq]; omega) (by omega) C.prog C.w E Q hQ
    case dct.dct xs ys =>
      obtain ⟨a, vs, e1, hr, l⟩ := h
      obtain ⟨b, ws, e2, hq, m⟩ := q
      subst e1 e2
      cases (show u = Value.ref a from r)
      cases (show u' = Value.ref b from r')
      obtain ⟨us, zs, f, o, o', t, g⟩ := dct_parts I (n := 149) hr l hq m (by simp only [D.dep] at hn; omega) (eqT I 149)
      rw [← g] at hQ
      exact PySem.W.eq_dictsT (dctObj I hr).1 (dctObj I hq).1 o o' t (by omega) hQ
theorem neTop (I : Inv C pins σ H s) (hu : C.A.units + 190 < cLine) (d e : D) (v w : V) (u u' : Value) (h : Any C.K O H d v) (r : RelV v u) (q : Any C.K O' H e w) (r' : RelV w u')
    (hk : eqOk d e = true) (hj : neOk d e = true) (E Q : Value → Shared → Prop) (hQ : Q (.bool (!D.eqv d e)) s) : wpAny (model C.prog C.w) C.A (compareOp .NotEq u u') Q E s := by
  have hn := eqOk_le hk
  cases hm : sameMake d e with
  | false => exact neLeaf I C.A (by omega) d e v w u u' h r q r' hm hj C.prog C.w E Q hQ
  | true =>
    cases d <;> cases e <;> first
      | (exact nomatch (show false = true from hm))
      | skip
    case tup.tup xs ys =>
      obtain ⟨a, vs, e1, hr, l⟩ := h
      obtain ⟨b, ws, e2, hq, m⟩ := q
      subst e1 e2
      cases (show u = Value.ref a from r)
      cases (show u' = Value.ref b from r')
      obtain ⟨is, rv, o⟩ := tupObj I hr
      obtain ⟨js, rw', o'⟩ := tupObj I hq
      refine tups_ne (e := fun j => D.eqv (xs.getD j .non) (ys.getD j .non)) o o' (by omega) (fun j h1 h2 => ?_) ?_
      · obtain ⟨v1, a1, r1, m1⟩ := vals_ix l rv j (by simpa using h1)
        obtain ⟨v2, a2, r2, m2⟩ := vals_ix m rw' j (by simpa using h2)
        have z := (eqT I 149 _ _ _ _ _ _ a1.any r1 a2.any r2 (by
          have d1 := dep_le m1
          have d2 := dep_le m2
          simp only [D.dep] at hn
          omega)).at C.A.in1 (by show C.A.units + 1 + 149 < cLine; omega)
        simpa using z
      · rw [size_of l rv, size_of m rw', Bool.beq_eq_decide_eq, eqvL_range]
        simp only [D.eqv] at hQ
        exact hQ
    case lst.lst xs ys =>
      obtain ⟨a, vs, e1, hr, l⟩ := h
      obtain ⟨b, ws, e2, hq, m⟩ := q
      subst e1 e2
      cases (show u = Value.ref a from r)
      cases (show u' = Value.ref b from r')
      obtain ⟨is, rv, o⟩ := lstObj I hr
      obtain ⟨js, rw', o'⟩ := lstObj I hq
      have s1 := size_of l rv
      have s2 := size_of m rw'
      simp only [D.eqv] at hQ
      by_cases hl : xs.length = ys.length
      · have fl : xs.all D.flat = true ∧ ys.all D.flat = true := by
          have hj' : (decide (xs.length ≠ ys.length) || (xs.all D.flat && ys.all D.flat)) = true := hj
          rw [decide_eq_false (fun z => z hl), Bool.false_or, Bool.and_eq_true] at hj'
          exact hj'
        have he : ∀ j (h1 : j < is.toArray.size) (h2 : j < js.toArray.size), SeqAt.EqAt C.A.in1 s is.toArray[j] js.toArray[j] (D.eqv (xs.getD j .non) (ys.getD j .non)) := fun j h1 h2 => by
          obtain ⟨v1, a1, r1, m1⟩ := vals_ix l rv j (by simpa using h1)
          obtain ⟨v2, a2, r2, m2⟩ := vals_ix m rw' j (by simpa using h2)
          have z := eqLeaf I C.A.in1 (by show C.A.units + 1 < cLine; omega) _ _ _ _ _ _ a1.any r1 a2.any r2 (flat_leaf (List.all_eq_true.mp fl.1 _ m1))
          simpa using z
        have z := SeqAt.RcNeAt.lists o o' (by omega) (by omega) he
        have g := eqvL_range xs ys
        rw [← hl, Nat.min_self, decide_eq_true rfl, Bool.and_true] at g
        rw [s1, g] at z
        exact z C.prog C.w E Q hQ
      · rw [eqvL_len hl] at hQ
        exact SeqAt.RcNeAt.lists_lengths o o' (by simp only [bne_iff_ne, ne_eq]; omega) (by omega) C.prog C.w E Q hQ
    case dct.dct xs ys =>
      obtain ⟨a, vs, e1, hr, l⟩ := h
      obtain ⟨b, ws, e2, hq, m⟩ := q
      subst e1 e2
      cases (show u = Value.ref a from r)
      cases (show u' = Value.ref b from r')
      obtain ⟨h1, _, us, rv, o⟩ := dctObj I hr
      obtain ⟨h2, _, zs, rw', o'⟩ := dctObj I hq
      have n1 : us.length = xs.length := by rw [← rv.length, ← l.length]
      have n2 : zs.length = ys.length := by rw [← rw'.length, ← m.length]
      have hj' : (xs.isEmpty || ys.isEmpty) = true := hj
      simp only [D.eqv] at hQ
      refine PySem.W.keq_ne (r := true) h1 h2 o o' (by omega) (fun hl => ?_) ?_
      · have e0 : us = [] := by
          rw [Bool.or_eq_true, List.isEmpty_iff, List.isEmpty_iff] at hj'
          rcases hj' with z | z
          · rw [z] at n1; exact List.eq_nil_of_length_eq_zero n1
          · rw [z] at n2; exact List.eq_nil_of_length_eq_zero (by rw [hl]; exact n2)
        rw [e0]
        exact .nil
      · rw [n1, n2]
        have e : (xs.length == ys.length && true) = (xs.length == ys.length && D.eqvD xs ys) := by
          by_cases hl : xs.length = ys.length
          · have e0 : xs = [] := by
              rw [Bool.or_eq_true, List.isEmpty_iff, List.isEmpty_iff] at hj'
              rcases hj' with z | z
              · exact z
              · rw [z] at hl; exact List.eq_nil_of_length_eq_zero hl
            rw [e0]
            unfold D.eqvD
            rfl
          · rw [beq_eq_false_iff_ne.mpr hl, Bool.false_and, Bool.false_and]
        rw [e]
        exact hQ
end
end Ev
set_option Elab.async false
set_option linter.all false
set_option maxRecDepth 100000
set_option maxHeartbeats 4000000
set_option autoImplicit false
/-! repr of data; the operators == and !=. -/
namespace Ev
open PySem PySem.Spec PyProof.Rows L2

theorem lim_eq : lim = sizeLine := by rw [sizeLine_eq]; rfl
/-- the table of modules stands in the base -/
def SysAt (h : Heap) : Prop := ∃ o es n, h.get? sysModules = some o ∧ o.data = .dict es n
section
variable {C : Cx} {pins : List (Addr × Obj)} {σ : L2.St} {H : Hp} {s : Shared} {O O' : Addr → Prop}
theorem ne_sys (I : Inv C pins σ H s) (hs : SysAt C.base) {a : Addr} {u : HO} (h : Rd H a u) : a ≠ sysModules := fun e => by
  obtain ⟨o, _, _, h1, _⟩ := hs
  subst e
  exact rd_there h (I.bs _ _ h1).2
theorem ne_sys_lst (I : Inv C pins σ H s) (hs : SysAt C.base) {a : Addr} {vs : List V} (h : SqL C.K H a vs) : a ≠ sysModules := fun e => by
  rcases h with h | ⟨o, its, n, hk, hc, _, hd, _⟩
  · exact ne_sys I hs h e
  · obtain ⟨o', es, m, h1, h2⟩ := hs
    subst e
    have e1 := I.bk _ _ h1
    have e2 := I.kIn _ _ hk
    rw [e1] at e2
    cases e2
    rw [h2] at hd
    cases hd
mutual
theorem reads_of (I : Inv C pins σ H s) (hs : SysAt C.base) : ∀ (d : D) (v : V) (u : Value), Any C.K O H d v → RelV v u → ∃ as, Reads s.heap u d.py as ∧ sysModules ∉ as
  | .non, v, u, h, r => by
    have h : v = .non := h
    subst h
    cases (show u = Value.none from r)
    unfold D.py
    exact ⟨_, .none, fun z => nomatch z⟩
  | .bl b, v, u, h, r => by
    have h : v = .bl b := h
    subst h
    cases (show u = Value.bool b from r)
    unfold D.py
    exact ⟨_, .bool b, fun z => nomatch z⟩
  | .int i, v, u, h, r => by
    have h : v = .int i := h
    subst h
    obtain ⟨t, e⟩ := (show ∃ t, u = Value.int i t from r)
    subst e
    unfold D.py
    exact ⟨_, .int i t, fun z => nomatch z⟩
  | .str x, v, u, h, r => by
    have h : v = .str x := h
    subst h
    obtain ⟨t, e⟩ := (show ∃ t, u = Value.str x t from r)
    subst e
    unfold D.py
    exact ⟨_, .str x t, fun z => nomatch z⟩
  | .tup ds, v, u, ⟨a, vs, e, hr, l⟩, r => by
    subst e
    cases (show u = Value.ref a from r)
    obtain ⟨its, rv, o, h1, h2, n, h3⟩ := tupObj I hr
    obtain ⟨as, ra, na⟩ := readsL_of I hs ds vs its l rv
    unfold D.py
    exact ⟨as, .tuple h1 h2 h3 (by simpa using ra), na⟩
  | .lst ds, v, u, ⟨a, vs, e, hr, l⟩, r => by
    subst e
    cases (show u = Value.ref a from r)
    obtain ⟨its, rv, o, h1, h2, n, h3⟩ := lstObj I hr
    obtain ⟨as, ra, na⟩ := readsL_of I hs ds vs its l rv
    unfold D.py
    refine ⟨a :: as, .list h1 h2 h3 (by simpa using ra), fun z => ?_⟩
    rcases List.mem_cons.mp z with z | z
    · exact ne_sys_lst I hs hr z.symm
    · exact na z
  | .dct ks, v, u, ⟨a, vs, e, hr, l⟩, r => by
    subst e
    cases (show u = Value.ref a from r)
    obtain ⟨hd, _, us, rv, o, es, ep, h1, ⟨h2, _⟩, h3, _, hp, _⟩ := dctObj I hr
    obtain ⟨as, bs, ra, rb, na, nb⟩ := readsD_of I hs ks vs us es.toList l rv hp
    unfold D.py
    refine ⟨a :: as ++ bs, .dict h1 h2 h3 ra rb, fun z => ?_⟩
    rw [List.cons_append] at z
    rcases List.mem_cons.mp z with z | z
    · rw [← z] at hd
      exact absurd hd (by decide)
    · rcases List.mem_append.mp z with z | z
      · exact na z
      · exact nb z
theorem readsL_of (I : Inv C pins σ H s) (hs : SysAt C.base) : ∀ (ds : List D) (vs : List V) (us : List Value), AtL O H ds vs → Vals vs us → ∃ as, ReadsAll s.heap us (D.pyL ds) as ∧ sysModules ∉ as
  | [], vs, us, h, r => by
    unfold AtL at h
    subst h
    cases r
    unfold D.pyL
    exact ⟨[], .nil, fun z => nomatch z⟩
  | d :: ds, vs, us, h, r => by
    unfold AtL at h
    obtain ⟨v, rest, e, a, l⟩ := h
    subst e
    cases r with
    | cons r1 r2 =>
      obtain ⟨as, ra, na⟩ := reads_of I hs d v _ a.any r1
      obtain ⟨bs, rb, nb⟩ := readsL_of I hs ds rest _ l r2
      unfold D.pyL
      exact ⟨as ++ bs, .cons ra rb, fun z => (List.mem_append.mp z).elim na nb⟩
theorem readsD_of (I : Inv C pins σ H s) (hs : SysAt C.base) : ∀ (ks : List (Str × D)) (vs : List (Key × V)) (us : List (Key × Value)) (es : List DictEntry), AtD O H ks vs → KV vs us → Pairs (mixKind C.prog C.w) es us →
    ∃ as bs, ReadsAll s.heap (es.map (·.key)) ((D.pyD ks).map (·.1)) as ∧ ReadsAll s.heap (es.map (·.val)) ((D.pyD ks).map (·.2)) bs ∧ sysModules ∉ as ∧ sysModules ∉ bs
  | [], vs, us, es, h, r, p => by
    unfold AtD at h
    subst h
    cases r
    cases p
    unfold D.pyD
    exact ⟨[], [], .nil, .nil, (fun z => nomatch z), fun z => nomatch z⟩
  | (k, d) :: ks, vs, us, es, h, r, p => by
    unfold AtD at h
    obtain ⟨v, rest, e, a, l⟩ := h
    subst e
    cases r with
    | cons r1 r2 =>
      obtain ⟨r0, r1⟩ := r1
      cases p with
      | cons p1 p2 p3 =>
        rename_i q qs en en'
        obtain ⟨qk, qv⟩ := q
        obtain ⟨as, ra, na⟩ := reads_of I hs d v _ a.any r1
        obtain ⟨bs, cs, rb, rc, nb, nc⟩ := readsD_of I hs ks rest qs en' l r2 p3
        have r0 : Sum.inr k = qk := r0
        subst r0
        have ek : ∃ t, en.key = Value.str k t := by
          rcases keyIs_shape (show keyIs (Sum.inr k) en.key = true from p1) with ⟨i, t, z, _⟩ | ⟨x, t, z, e⟩
          · exact nomatch z
          · cases z
            exact ⟨t, e⟩
        obtain ⟨t, ek⟩ := ek
        have ev : en.val = qv := p2
        unfold D.pyD
        refine ⟨[] ++ bs, as ++ cs, ?_, ?_, nb, fun z => (List.mem_append.mp z).elim na nc⟩
        · rw [List.map_cons, List.map_cons, ek]
          exact .cons (.str k t) rb
        · rw [List.map_cons, List.map_cons, ev]
          exact .cons ra rc
end
/-- repr(d) -/
theorem call_reprA (hg : C.A.guards = some []) (hu : C.A.units + 190 < cLine) (hs : SysAt C.base) :
    CallR C (.builtin "repr") (fun xs H Q => ∃ (O : Addr → Prop) (d : D) (v : V), xs = [v] ∧ Any C.K O H d v ∧ d.showOk = true ∧ Q (.str d.shown) H) := by
  intro pins s σ H xs us Q I r h
  obtain ⟨O, d, v, e, a, ok, q⟩ := h
  subst e
  obtain ⟨u, e, ru⟩ := vals1 r
  subst e
  have ok' : (d.py.showable = true ∧ d.py.shown.length ≤ lim) ∧ d.py.depth ≤ 150 := by
    unfold D.showOk at ok
    simpa using ok
  obtain ⟨⟨k1, k2⟩, k3⟩ := ok'
  rw [lim_eq] at k2
  have fin : ∀ (t : Tok) (h' : Heap) (tk : Nat), (∀ b o, s.heap.get? b = some o → h'.get? b = some o) → EP C pins σ Q (.str d.py.shown t) { s with heap := h', toks := tk } := fun t h' tk k =>
    ⟨.str d.shown, H, I.kept k, ⟨t, rfl⟩, q⟩
  obtain ⟨as, ra, na⟩ := reads_of I hs d v u a ru
  have big : ∀ b : Addr, u = .ref b → wpAny (model C.prog C.w) C.A (call (.builtin "repr") [u]) (EP C pins σ Q) C.xe s := fun b e => by
    subst e
    exact repr_of_reads' (h₀ := s.heap) ra k1 (fun _ => na) hg (by omega) (fun _ _ z => z) (fun h' t tk k => fin t h' tk k) k2
  cases d with
  | non =>
    have a : v = .non := a
    subst a
    cases (show u = Value.none from ru)
    exact PySem.P.repr_of_none (by have z := fin s.toks s.heap (s.toks + 1) (fun _ _ z => z); unfold D.py at z; exact z)
  | bl b =>
    have a : v = .bl b := a
    subst a
    cases (show u = Value.bool b from ru)
    exact PySem.P.repr_of_bool (by have z := fin s.toks s.heap (s.toks + 1) (fun _ _ z => z); unfold D.py PyData.shown at z; cases b <;> exact z)
  | int i =>
    have a : v = .int i := a
    subst a
    obtain ⟨t, e⟩ := (show ∃ t, u = Value.int i t from ru)
    subst e
    have k1' : i.natAbs.log2 < 1920 := by
      unfold D.py PyData.showable at k1
      exact of_decide_eq_true k1
    exact PySem.P.repr_of_int k1' (by have z := fin s.toks s.heap (s.toks + 1) (fun _ _ z => z); unfold D.py PyData.shown at z; exact z)
  | str x =>
    have a : v = .str x := a
    subst a
    obtain ⟨t, e⟩ := (show ∃ t, u = Value.str x t from ru)
    subst e
    unfold D.py PyData.shown at k2
    exact PySem.P.repr_of_str (by have z := fin s.toks s.heap (s.toks + 1) (fun _ _ z => z); unfold D.py PyData.shown at z; exact z) k2
  | tup ds => obtain ⟨a', vs, e, _⟩ := a; subst e; exact big a' ru
  | lst ds => obtain ⟨a', vs, e, _⟩ := a; subst e; exact big a' ru
  | dct ds => obtain ⟨a', vs, e, _⟩ := a; subst e; exact big a' ru
end
section
variable {C : Cx}
def rEqA (K : PySem.W.Frag) : R2 := fun x y H Q => ∃ (O O' : Addr → Prop) (d e : D), Any K O H d x ∧ Any K O' H e y ∧ eqOk d e = true ∧ Q (.bl (D.eqv d e)) H
def rNeA (K : PySem.W.Frag) : R2 := fun x y H Q => ∃ (O O' : Addr → Prop) (d e : D), Any K O H d x ∧ Any K O' H e y ∧ eqOk d e = true ∧ neOk d e = true ∧ Q (.bl (!D.eqv d e)) H
theorem op_eqA (hu : C.A.units + 190 < cLine) : OpR C (compareOp .Eq) (rEqA C.K) := by
  intro pins s σ H x y v u Q I rx ry h
  obtain ⟨O, O', d, e, a, b, k, q⟩ := h
  exact eqTop I hu d e x y v u a rx b ry k _ _ ⟨.bl _, H, I, rfl, q⟩
theorem op_neA (hu : C.A.units + 190 < cLine) : OpR C (compareOp .NotEq) (rNeA C.K) := by
  intro pins s σ H x y v u Q I rx ry h
  obtain ⟨O, O', d, e, a, b, k, j, q⟩ := h
  exact neTop I hu d e x y v u a rx b ry k j _ _ ⟨.bl _, H, I, rfl, q⟩
end
end Ev
set_option Elab.async false
set_option linter.all false
set_option maxRecDepth 100000
set_option maxHeartbeats 4000000
set_option autoImplicit false
/-! Expressions: what is wanted of one, in what surroundings. -/
namespace Ev
open PySem PySem.Spec PyProof.Rows L2

/-! ### names as an expression sees them -/
def SeeOk (K : PySem.W.Frag) (Er : Addr → Str → Prop) (O : Addr → Prop) (H : Hp) : Cel → Option V → Prop
  | .no, _ => True
  | .val d, v => ∃ x, v = some x ∧ At O H d x
  | .own d, v => ∃ a, v = some (.ref a) ∧ BorAt K O H a d
  | .lent d, v => ∃ a, v = some (.ref a) ∧ BorAt K O H a d
  | .bor d, v => ∃ a, v = some (.ref a) ∧ BorAt K O H a d
  | .err c, v => ∃ a, v = some (.ref a) ∧ Er a c
structure ERel (K : PySem.W.Frag) (Er : Addr → Str → Prop) (O : Addr → Prop) (e : En) (σ : L2.St) (H : Hp) : Prop where
  od : ∀ b, O b → H b ≠ none
  len : e.length = σ.length
  slot : ∀ (i : Nat) (s : Cel), e[i]? = some s → SeeOk K Er O H s (σ[i]?.join)
theorem Rel.see {K : PySem.W.Frag} {Er : Addr → Str → Prop} {O0 : Addr → Prop} {H0 H : Hp} {e : En} {σ : L2.St} (R : Rel K Er O0 H0 e σ H) : ERel K Er (Ow O0 e σ) e σ H := by
  refine ⟨R.ow, R.len, fun i s h => ?_⟩
  have q := R.slot i s h
  cases s with
  | no => exact True.intro
  | val d => exact q
  | own d => obtain ⟨a, e1, _, o⟩ := q; exact ⟨a, e1, o.bor⟩
  | lent d => obtain ⟨a, e1, _, o⟩ := q; exact ⟨a, e1, o.bor⟩
  | bor d => obtain ⟨a, e1, b⟩ := q; exact ⟨a, e1, b.tr (.same R.same) fun _ _ z => rd_same R.same z⟩
  | err c => exact q
section
variable {K : PySem.W.Frag} {Er : Addr → Str → Prop} {O O' : Addr → Prop} {H H1 : Hp} {e : En} {σ : L2.St}
theorem SeeOk.tr (t : Tr O O' H H1) (k : ∀ a u, plainO u = true → Rd H a u → Rd H1 a u) : ∀ {x : Cel} {v : Option V}, SeeOk K Er O H x v → SeeOk K Er O' H1 x v
  | .no, _, _ => True.intro
  | .val _, _, ⟨x, e, a⟩ => ⟨x, e, At.tr t _ _ a⟩
  | .own _, _, ⟨a, e, b⟩ => ⟨a, e, b.tr t (k a)⟩
  | .lent _, _, ⟨a, e, b⟩ => ⟨a, e, b.tr t (k a)⟩
  | .bor _, _, ⟨a, e, b⟩ => ⟨a, e, b.tr t (k a)⟩
  | .err _, _, h => h
theorem ERel.step (R : ERel K Er O e σ H) (s : Same H H1) : ERel K Er O e σ H1 :=
  ⟨fun b h z => R.od b h (s.free z), R.len, fun i x h => (R.slot i x h).tr (.same s) fun _ _ _ z => rd_same s z⟩
/-- something new, set apart -/
theorem ERel.apart (R : ERel K Er O e σ H) {p : Addr} (hp : H p = none) (o : HO) : ERel K Er (with1 O p) e σ (upd H p o) := by
  have s := same_new hp o
  refine ⟨fun b h => ?_, R.len, fun i x h => (R.slot i x h).tr ((Tr.grow fun b z => ?_).trans (Tr.same s)) fun _ _ _ z => rd_same s z⟩
  · rcases h with h | h
    · exact fun z => R.od b h (s.free z)
    · rw [h, upd_same]; intro z; cases z
  · rcases z with z | z
    · exact .inl z
    · rw [z]; exact .inr hp
theorem ERel.var (R : ERel K Er O e σ H) {i : Nat} {r : RV} (h : (match e[i]? with
    | some (.val d) => Rs.ok (.val d)
    | some (.own d) => Rs.ok (.bor d)
    | some (.lent d) => Rs.ok (.bor d)
    | some (.bor d) => Rs.ok (.bor d)
    | _ => Rs.stuck) = Rs.ok r) : ∃ v, σ[i]? = some (some v) ∧ ResOk K O H H r v := by
  split at h
  · rename_i d hd
    cases h
    obtain ⟨x, e1, a⟩ := R.slot i _ hd
    exact ⟨x, join_some e1, a⟩
  · rename_i d hd
    cases h
    obtain ⟨a, e1, b⟩ := R.slot i _ hd
    exact ⟨_, join_some e1, a, rfl, b⟩
  · rename_i d hd
    cases h
    obtain ⟨a, e1, b⟩ := R.slot i _ hd
    exact ⟨_, join_some e1, a, rfl, b⟩
  · rename_i d hd
    cases h
    obtain ⟨a, e1, b⟩ := R.slot i _ hd
    exact ⟨_, join_some e1, a, rfl, b⟩
  · cases h
end

/-! ### what is wanted of an end -/
section
variable (K : PySem.W.Frag) (mg : Str → Option Value) (Er : Addr → Str → Prop) (W : WX)
/-- a refusal: W takes it -/
def Lets (σ : L2.St) (H : Hp) (c : Str) : Prop := ∀ cv H', Same H H' → mg c = some cv → W cv none σ H'
def PostX (O : Addr → Prop) (σ : L2.St) (H : Hp) (Q : VK) : Rs RV → Prop
  | .ok r => ∀ v H', Same H H' → ResOk K O H H' r v → Q v H'
  | .exc c => Lets mg W σ H c
  | .stuck => False
def ResL (O : Addr → Prop) (H H' : Hp) : List RV → List V → Prop
  | [], vs => vs = []
  | r :: rs, vs => ∃ v t, vs = v :: t ∧ ResOk K O H H' r v ∧ ResL O H H' rs t
def PostXs (O : Addr → Prop) (σ : L2.St) (H : Hp) (Q : List V → Hp → Prop) : Rs (List RV) → Prop
  | .ok rs => ∀ vs H', Same H H' → ResL K O H H' rs vs → Q vs H'
  | .exc c => Lets mg W σ H c
  | .stuck => False
def PostT (σ : L2.St) (H : Hp) (Q : Bool → Hp → Prop) : Rs Bool → Prop
  | .ok b => ∀ H', Same H H' → Q b H'
  | .exc c => Lets mg W σ H c
  | .stuck => False
def tX (f : En → Rs RV) : TE := fun σ H Q => ∃ O e, ERel K Er O e σ H ∧ PostX K mg W O σ H Q (f e)
def tXs (f : En → Rs (List RV)) : TA := fun σ H Q => ∃ O e, ERel K Er O e σ H ∧ PostXs K mg W O σ H Q (f e)
def tT (f : En → Rs Bool) : TT := fun σ H Q => ∃ O e, ERel K Er O e σ H ∧ PostT mg W σ H Q (f e)
end
section
variable {K : PySem.W.Frag} {mg : Str → Option Value} {Er : Addr → Str → Prop} {W : WX} {O : Addr → Prop} {e : En} {σ : L2.St} {H H1 : Hp}
theorem Lets.step {c : Str} (h : Lets mg W σ H c) (s : Same H H1) : Lets mg W σ H1 c := fun cv H' s' e => h cv H' (s.trans s') e
theorem PostX.step {Q : VK} : ∀ {z : Rs RV}, PostX K mg W O σ H Q z → Same H H1 → PostX K mg W O σ H1 Q z
  | .ok _, h, s => fun v H' s' a => h v H' (s.trans s') (a.from s)
  | .exc _, h, s => Lets.step h s
  | .stuck, h, _ => h
theorem ResL.same {H2 : Hp} (s : Same H1 H2) : ∀ {rs : List RV} {vs : List V}, ResL K O H H1 rs vs → ResL K O H H2 rs vs
  | [], _, h => h
  | _ :: _, _, ⟨v, t, e, a, l⟩ => ⟨v, t, e, a.same s, ResL.same s l⟩
theorem ResL.from {H2 : Hp} (s : Same H H1) : ∀ {rs : List RV} {vs : List V}, ResL K O H1 H2 rs vs → ResL K O H H2 rs vs
  | [], _, h => h
  | _ :: _, _, ⟨v, t, e, a, l⟩ => ⟨v, t, e, a.from s, ResL.from s l⟩
theorem PostXs.step {Q : List V → Hp → Prop} : ∀ {z : Rs (List RV)}, PostXs K mg W O σ H Q z → Same H H1 → PostXs K mg W O σ H1 Q z
  | .ok _, h, s => fun v H' s' a => h v H' (s.trans s') (ResL.from s a)
  | .exc _, h, s => Lets.step h s
  | .stuck, h, _ => h
theorem PostT.step {Q : Bool → Hp → Prop} : ∀ {z : Rs Bool}, PostT mg W σ H Q z → Same H H1 → PostT mg W σ H1 Q z
  | .ok _, h, s => fun H' s' => h H' (s.trans s')
  | .exc _, h, s => Lets.step h s
  | .stuck, h, _ => h
/-- a part's end, then the rest: P is what is wanted of the whole, from the heap H -/
structure Wants (W : WX) (mg : Str → Option Value) (σ : L2.St) (H : Hp) {B : Type} (P : Rs B → Prop) : Prop where
  exc : ∀ {c : Str}, P (.exc c) → Lets mg W σ H c
  stuck : ¬ P .stuck
theorem wants_X {Q : VK} : Wants W mg σ H (PostX K mg W O σ H Q) := ⟨fun h => h, fun h => h⟩
theorem wants_Xs {Q : List V → Hp → Prop} : Wants W mg σ H (PostXs K mg W O σ H Q) := ⟨fun h => h, fun h => h⟩
theorem wants_T {Q : Bool → Hp → Prop} : Wants W mg σ H (PostT mg W σ H Q) := ⟨fun h => h, fun h => h⟩
section
variable {B : Type} {P : Rs B → Prop} {H0 : Hp}
theorem tX_bind (w : Wants W mg σ H0 P) (s0 : Same H0 H) {f : En → Rs RV} {g : RV → Rs B} {Kt : VK} (R : ERel K Er O e σ H) (hp : P ((f e).bind g))
    (k : ∀ r v H1, f e = .ok r → Same H H1 → ResOk K O H H1 r v → ERel K Er O e σ H1 → P (g r) → Kt v H1) : tX K mg Er W f σ H Kt := by
  refine ⟨O, e, R, ?_⟩
  cases q : f e with
  | stuck => rw [q] at hp; exact (w.stuck hp).elim
  | exc c => rw [q] at hp; exact (w.exc hp).step s0
  | ok r =>
    rw [q] at hp
    exact fun v H1 s a => k r v H1 q s a (R.step s) hp
theorem tXs_bind (w : Wants W mg σ H0 P) (s0 : Same H0 H) {f : En → Rs (List RV)} {g : List RV → Rs B} {Kt : List V → Hp → Prop} (R : ERel K Er O e σ H) (hp : P ((f e).bind g))
    (k : ∀ r v H1, f e = .ok r → Same H H1 → ResL K O H H1 r v → ERel K Er O e σ H1 → P (g r) → Kt v H1) : tXs K mg Er W f σ H Kt := by
  refine ⟨O, e, R, ?_⟩
  cases q : f e with
  | stuck => rw [q] at hp; exact (w.stuck hp).elim
  | exc c => rw [q] at hp; exact (w.exc hp).step s0
  | ok r =>
    rw [q] at hp
    exact fun v H1 s a => k r v H1 q s a (R.step s) hp
theorem tT_bind (w : Wants W mg σ H0 P) (s0 : Same H0 H) {f : En → Rs Bool} {g : Bool → Rs B} {Kt : Bool → Hp → Prop} (R : ERel K Er O e σ H) (hp : P ((f e).bind g))
    (k : ∀ r H1, f e = .ok r → Same H H1 → ERel K Er O e σ H1 → P (g r) → Kt r H1) : tT K mg Er W f σ H Kt := by
  refine ⟨O, e, R, ?_⟩
  cases q : f e with
  | stuck => rw [q] at hp; exact (w.stuck hp).elim
  | exc c => rw [q] at hp; exact (w.exc hp).step s0
  | ok r =>
    rw [q] at hp
    exact fun H1 s => k r H1 q s (R.step s) hp
end
end
end Ev
set_option Elab.async false
set_option linter.all false
set_option maxRecDepth 100000
set_option maxHeartbeats 4000000
set_option autoImplicit false
/-! Expressions: one rule a word. -/
namespace Ev
open PySem PySem.Spec PyProof.Rows L2

theorem pe_case {C : Cx} {x : Expr} {t' : TE} (h : ∀ σ H Q, t' σ H Q → ∃ t, PE C x t ∧ t σ H Q) : PE C x t' :=
  ⟨fun pins s σ H Q I q => let ⟨_, p, q'⟩ := h σ H Q q; p.run pins s σ H Q I q'⟩
theorem pa_case {C : Cx} {x : List Expr} {t' : TA} (h : ∀ σ H Q, t' σ H Q → ∃ t, PA C x t ∧ t σ H Q) : PA C x t' :=
  ⟨fun pos pins s σ H Q I q => let ⟨_, p, q'⟩ := h σ H Q q; p.run pos pins s σ H Q I q'⟩
theorem pt_case {C : Cx} {x : Expr} {t' : TT} (h : ∀ σ H Q, t' σ H Q → ∃ t, PT C x t ∧ t σ H Q) : PT C x t' :=
  ⟨fun pins s σ H Q I q => let ⟨_, p, q'⟩ := h σ H Q q; p.run pins s σ H Q I q'⟩
theorem pw_case {C : Cx} {x : Expr} {t' : TT} (h : ∀ σ H Q, t' σ H Q → ∃ t, PW C x t ∧ t σ H Q) : PW C x t' :=
  ⟨fun wh pins s σ H Q I q => let ⟨_, p, q'⟩ := h σ H Q q; p.run wh pins s σ H Q I q'⟩

def noStar : Expr → Bool
  | .Starred .. => false
  | _ => true
theorem star_cons {x : Expr} (h : noStar x = true) (es : List Expr) (env : PySem.Env) : starEach (x :: es) env = (false, eval x env) :: starEach es env := by
  cases x <;> first | rfl | (exact nomatch (show false = true from h))
theorem star_any {env : PySem.Env} {pos : Pos} : ∀ {es : List Expr}, es.all noStar = true → (backTo pos (starEach es env)).any (·.1) = false
  | [], _ => rfl
  | x :: es, h => by
    rw [List.all_cons, Bool.and_eq_true] at h
    rw [star_cons h.1]
    show (false || (backTo pos (starEach es env)).any (·.1)) = false
    rw [Bool.false_or]
    exact star_any h.2
theorem attr_plain {o : Expr} (h : noCall0 o = true) (nm : Str) (env : PySem.Env) (w : Sem Value) : attributeBase o nm env w = w := by
  unfold attributeBase
  split
  · rename_i id p pos
    exact nomatch (show false = true from h)
  · rfl
theorem ix_plain {b : Expr} (h : noSlice b = true) : PlainIx b := fun o i => by
  cases b <;> first | rfl | (exact nomatch (show false = true from h))

section
variable {K : PySem.W.Frag} {O : Addr → Prop} {H H1 : Hp}
theorem asVals_at (hO : ∀ b, O b → H b ≠ none) : ∀ {rs : List RV} {vs : List V} {ds : List D}, ResL K O H H1 rs vs → asVals rs = .ok ds → AtL O H1 ds vs
  | [], vs, ds, h, q => by
    cases q
    unfold ResL at h
    rw [h]
    exact .nil
  | r :: rs, vs, ds, ⟨v, t, e, a, l⟩, q => by
    unfold asVals at q
    cases q1 : asVal r with
    | exc c => rw [q1] at q; exact nomatch q
    | stuck => rw [q1] at q; exact nomatch q
    | ok d =>
      rw [q1] at q
      cases q2 : asVals rs with
      | exc c => rw [bind_ok, q2] at q; exact nomatch q
      | stuck => rw [bind_ok, q2] at q; exact nomatch q
      | ok es =>
        rw [bind_ok, q2] at q
        cases q
        rw [e]
        exact .cons (a.val hO q1) (asVals_at hO l q2)
theorem ResL.length : ∀ {rs : List RV} {vs : List V}, ResL K O H H1 rs vs → vs.length = rs.length
  | [], _, h => by unfold ResL at h; rw [h]; rfl
  | r :: rs, _, ⟨v, t, e, _, l⟩ => by rw [e, List.length_cons, List.length_cons, ResL.length l]
theorem tr_apart {p : Addr} (hp : H p = none) (o : HO) : Tr O (with1 O p) H (upd H p o) :=
  (Tr.grow fun b z => z.elim .inl fun e => .inr (e ▸ hp)).trans (.same (same_new hp o))
theorem own_lst {p : Addr} {ds : List D} {vs : List V} (hp : H1 p = none) (s : Same H H1) (l : AtL O H1 ds vs) : ResOk K O H (upd H1 p (.lst vs)) (.own (.lst ds)) (.ref p) :=
  ⟨p, rfl, s.free hp, vs, upd_same, AtL.tr (tr_apart hp _) ds vs l⟩
theorem own_dct {p : Addr} {ds : List (Str × D)} {vs : List (Key × V)} (hp : H1 p = none) (s : Same H H1) (l : AtD O H1 ds vs) : ResOk K O H (upd H1 p (.dK vs)) (.own (.dct ds)) (.ref p) :=
  ⟨p, rfl, s.free hp, vs, upd_same, AtD.tr (tr_apart hp _) ds vs l⟩
theorem val_tup {p : Addr} {ds : List D} {vs : List V} (hO : ∀ b, O b → H1 b ≠ none) (hp : H1 p = none) (l : AtL O H1 ds vs) : ResOk K O H (upd H1 p (.tup vs)) (.val (.tup ds)) (.ref p) := by
  show At O (upd H1 p (.tup vs)) (.tup ds) (.ref p)
  unfold At
  exact ⟨p, vs, rfl, fun z => hO p z hp, .of upd_same, AtL.tr (.same (same_new hp _)) ds vs l⟩
theorem at_flat {d : D} {v : V} (h : At O H d v) : d.flat = true → flatV v = true := by
  cases d <;> intro f <;> first
    | (unfold At at h; rw [h]; rfl)
    | (exact nomatch (show false = true from f))
theorem any_flat {d : D} {v : V} (h : Any K O H d v) : d.flat = true → flatV v = true := by
  cases d <;> intro f <;> first
    | (have h : v = _ := h; rw [h]; rfl)
    | (exact nomatch (show false = true from f))
theorem any_eqV {d e : D} {v w : V} (h : Any K O H d v) (q : Any K O H e w) (f : d.flat = true) (g : e.flat = true) : eqV v w = D.eqv d e := by
  cases d <;> cases e <;> first
    | (exact nomatch (show false = true from f))
    | (exact nomatch (show false = true from g))
    | (have h : v = _ := h; have q : w = _ := q; rw [h, q]; simp only [D.eqv, eqV]; done)
    | (have h : v = _ := h; have q : w = _ := q; rw [h, q]; simp only [D.eqv, eqV, Bool.beq_eq_decide_eq]; done)
theorem atL_flat : ∀ {ds : List D} {vs : List V}, AtL O H ds vs → ds.all D.flat = true → vs.all flatV = true
  | [], _, h, _ => by unfold AtL at h; rw [h]; rfl
  | d :: ds, _, h, f => by
    unfold AtL at h
    obtain ⟨v, r, e, a, l⟩ := h
    rw [List.all_cons, Bool.and_eq_true] at f
    rw [e, List.all_cons, at_flat a f.1, atL_flat l f.2]
    rfl
theorem atL_in {d : D} {v : V} (h : Any K O H d v) (f : d.flat = true) : ∀ {ds : List D} {vs : List V}, AtL O H ds vs → ds.all D.flat = true → inV v vs = ds.any fun y => D.eqv y d
  | [], _, h, _ => by unfold AtL at h; rw [h]; rfl
  | e :: ds, _, q, g => by
    unfold AtL at q
    obtain ⟨w, r, e1, a, l⟩ := q
    rw [List.all_cons, Bool.and_eq_true] at g
    rw [e1, List.any_cons, ← atL_in h f l g.2, ← any_eqV (K := K) a.any h g.1 f]
    rfl
end

abbrev cX (C : Cx) (Er : Addr → Str → Prop) (W : WX) (f : En → Rs RV) : TE := tX C.K C.mg Er W f
abbrev cXs (C : Cx) (Er : Addr → Str → Prop) (W : WX) (f : En → Rs (List RV)) : TA := tXs C.K C.mg Er W f
abbrev cT (C : Cx) (Er : Addr → Str → Prop) (W : WX) (f : En → Rs Bool) : TT := tT C.K C.mg Er W f
section
variable {C : Cx} {Er : Addr → Str → Prop} {W : WX} {f g h : En → Rs RV} {fs : En → Rs (List RV)} {x y z : Expr} {pos : Pos}
theorem c_const {v : V} {d : D} (p : PE C x (tC v)) (hd : ∀ O H, At O H d v) : PE C x (cX C Er W fun _ => .ok (.val d)) :=
  pe_case fun σ H Q ⟨O, e, R, hp⟩ => ⟨_, p, hp v H (Same.refl H) (hd O H)⟩
theorem c_none {j : Nat} : PE C (.Constant .none j pos) (cX C Er W fun _ => .ok (.val .non)) := c_const pe_non fun O H => by unfold At; rfl
theorem c_bool {j : Nat} {b : Bool} : PE C (.Constant (.bool b) j pos) (cX C Er W fun _ => .ok (.val (.bl b))) := c_const pe_bl fun O H => by unfold At; rfl
theorem c_int {j : Nat} {i : Int} : PE C (.Constant (.int i) j pos) (cX C Er W fun _ => .ok (.val (.int i))) := c_const pe_int fun O H => by unfold At; rfl
theorem c_str {j : Nat} {s : Str} : PE C (.Constant (.str s) j pos) (cX C Er W fun _ => .ok (.val (.str s))) := c_const pe_str fun O H => by unfold At; rfl
theorem c_var {i : Nat} {n : Str} (hN : C.N[i]? = some n) (hv : Vis C.env.scope n) (hd : (n == ("__debug__" : Str)) = false) (hcd : (n == ("__classdict__" : Str)) = false) :
    PE C (.Name n pos) (cX C Er W fun e => match e[i]? with
      | some (.val d) => .ok (.val d)
      | some (.own d) => .ok (.bor d)
      | some (.lent d) => .ok (.bor d)
      | some (.bor d) => .ok (.bor d)
      | _ => .stuck) :=
  pe_case fun σ H Q ⟨O, e, R, hp⟩ => by
    refine ⟨_, pe_var hN hv hd hcd, ?_⟩
    dsimp only at hp
    generalize hz : (match e[i]? with
      | some (.val d) => Rs.ok (.val d)
      | some (.own d) => Rs.ok (.bor d)
      | some (.lent d) => Rs.ok (.bor d)
      | some (.bor d) => Rs.ok (.bor d)
      | _ => Rs.stuck : Rs RV) = z at hp
    cases z with
    | stuck => exact hp.elim
    | exc c => split at hz <;> exact nomatch hz
    | ok r =>
      obtain ⟨v, e1, a⟩ := R.var hz
      exact ⟨v, e1, hp v H (Same.refl H) a⟩
theorem c_glob {n : Str} {i : Int} {t : Tok} (hg : Gl C n) (hm : C.mg n = some (.int i t)) (hd : (n == ("__debug__" : Str)) = false) : PE C (.Name n pos) (cX C Er W fun _ => .ok (.val (.int i))) :=
  c_const (pe_glob (v := .int i) hg hm ⟨t, rfl⟩ hd) fun O H => by unfold At; rfl

/-! ### arguments, displays -/
theorem c_nil : PA C [] (cXs C Er W fun _ => .ok []) := pa_case fun σ H Q ⟨O, e, R, hp⟩ => ⟨_, pa_nil, hp [] H (Same.refl H) rfl⟩
theorem c_cons {xs : List Expr} (hx : PE C x (cX C Er W f)) (hr : PA C xs (cXs C Er W fs)) (ns : noStar x = true) : PA C (x :: xs) (cXs C Er W fun e => (f e).bind fun v => (fs e).bind fun vs => .ok (v :: vs)) :=
  pa_case fun σ H Q ⟨O, e, R, hp⟩ => ⟨_, pa_cons hx hr (star_cons ns _ _), tX_bind wants_Xs (.refl H) R hp fun r v H1 _ s1 a1 R1 p1 => tXs_bind wants_Xs s1 R1 p1 fun rs vs H2 _ s2 l2 R2 p2 =>
    p2 (v :: vs) H2 (s1.trans s2) ⟨v, vs, rfl, ResOk.same s2 a1, ResL.from s1 l2⟩⟩
end
end Ev
set_option Elab.async false
set_option linter.all false
set_option maxRecDepth 100000
set_option maxHeartbeats 4000000
set_option autoImplicit false
/-! Expressions: displays, operators, comparisons. -/
namespace Ev
open PySem PySem.Spec PyProof.Rows L2

theorem asVal_cases (r : RV) : (∃ d, asVal r = .ok d) ∨ asVal r = .stuck := by
  cases r with
  | val d => exact .inl ⟨d, rfl⟩
  | own d => exact .inl ⟨d, rfl⟩
  | bor d => exact .inr rfl
theorem asVals_cases : ∀ rs : List RV, (∃ ds, asVals rs = .ok ds) ∨ asVals rs = .stuck
  | [] => .inl ⟨[], rfl⟩
  | r :: rs => by
    unfold asVals
    rcases asVal_cases r with ⟨d, e⟩ | e
    · rw [e, bind_ok]
      rcases asVals_cases rs with ⟨ds, e2⟩ | e2
      · rw [e2]; exact .inl ⟨_, rfl⟩
      · rw [e2]; exact .inr rfl
    · rw [e]; exact .inr rfl
theorem asBl_cases (r : RV) : (∃ b, r = .val (.bl b) ∧ asBl r = .ok b) ∨ asBl r = .stuck := by
  cases r with
  | val d => cases d <;> first | exact .inl ⟨_, rfl, rfl⟩ | exact .inr rfl
  | own d => exact .inr rfl
  | bor d => exact .inr rfl
theorem pairUp_cases : ∀ (n : Nat) (ds : List D), ds.length ≤ n → (∃ l, pairUp ds = .ok l) ∨ pairUp ds = .stuck
  | _, [], _ => .inl ⟨[], rfl⟩
  | _, [d], _ => .inr (by cases d <;> rfl)
  | 0, _ :: _ :: _, h => absurd h (by simp)
  | n + 1, d :: e :: r, h => by
    cases d <;> first
      | exact .inr rfl
      | skip
    rename_i k
    show (∃ l, ((pairUp r).bind fun l => Rs.ok ((k, e) :: l)) = _) ∨ _
    rcases pairUp_cases n r (by simp only [List.length_cons] at h; omega) with ⟨l, q⟩ | q
    · rw [q]; exact .inl ⟨_, rfl⟩
    · exact .inr (by show ((pairUp r).bind fun l => Rs.ok ((k, e) :: l)) = _; rw [q]; rfl)

section
variable {C : Cx} {Er : Addr → Str → Prop} {W : WX} {f g h : En → Rs RV} {fs : En → Rs (List RV)} {x y z : Expr} {xs : List Expr} {pos : Pos}
theorem small_line {n : Nat} (h : n ≤ 1000) : n ≤ sizeLine := Nat.le_trans h (by rw [sizeLine_eq]; decide)
theorem c_tup {k : Nat} (hx : PA C xs (cXs C Er W fs)) (hl : ∀ e rs, fs e = .ok rs → rs.length ≤ 1000) :
    PE C (.Tuple xs k pos) (cX C Er W fun e => (fs e).bind fun rs => (asVals rs).bind fun ds => .ok (.val (.tup ds))) :=
  pe_case fun σ H Q ⟨O, e, R, hp⟩ => ⟨_, pe_tup hx, tXs_bind wants_X (.refl H) R hp fun rs vs H1 q s1 l1 R1 p1 => by
    refine ⟨by rw [l1.length]; exact small_line (hl e rs q), fun p np => ?_⟩
    rcases asVals_cases rs with ⟨ds, q2⟩ | q2
    · rw [q2] at p1
      exact p1 _ _ (s1.trans (same_new np _)) (val_tup R1.od np (asVals_at R.od l1 q2))
    · rw [q2] at p1; exact False.elim p1⟩
theorem c_lst (hx : PA C xs (cXs C Er W fs)) (hl : ∀ e rs, fs e = .ok rs → rs.length ≤ 1000) :
    PE C (.List xs pos) (cX C Er W fun e => (fs e).bind fun rs => (asVals rs).bind fun ds => .ok (.own (.lst ds))) :=
  pe_case fun σ H Q ⟨O, e, R, hp⟩ => ⟨_, pe_lst hx, tXs_bind wants_X (.refl H) R hp fun rs vs H1 q s1 l1 R1 p1 => by
    refine ⟨by rw [l1.length]; exact small_line (hl e rs q), fun p np => ?_⟩
    rcases asVals_cases rs with ⟨ds, q2⟩ | q2
    · rw [q2] at p1
      exact p1 _ _ (s1.trans (same_new np _)) (own_lst np s1 (asVals_at R.od l1 q2))
    · rw [q2] at p1; exact False.elim p1⟩

/-! ### operators -/
theorem any_int {K : PySem.W.Frag} {O : Addr → Prop} {H : Hp} {i : Int} {v : V} (h : Any K O H (.int i) v) : v = .int i := h
theorem any_str {K : PySem.W.Frag} {O : Addr → Prop} {H : Hp} {i : Str} {v : V} (h : Any K O H (.str i) v) : v = .str i := h
theorem any_bl {K : PySem.W.Frag} {O : Addr → Prop} {H : Hp} {i : Bool} {v : V} (h : Any K O H (.bl i) v) : v = .bl i := h
section
variable {K : PySem.W.Frag} {O : Addr → Prop} {H H' : Hp}
theorem res_int {i : Int} : ResOk K O H H' (.val (.int i)) (.int i) := by
  show At O H' (.int i) (.int i)
  unfold At
  rfl
theorem res_bl {i : Bool} : ResOk K O H H' (.val (.bl i)) (.bl i) := by
  show At O H' (.bl i) (.bl i)
  unfold At
  rfl
theorem res_str {i : Str} : ResOk K O H H' (.val (.str i)) (.str i) := by
  show At O H' (.str i) (.str i)
  unfold At
  rfl
theorem res_non : ResOk K O H H' (.val .non) .non := by
  show At O H' .non .non
  unfold At
  rfl
end
def rCatS (K : PySem.W.Frag) : R2 := fun x y H Q => ∃ l b xs zs, x = .ref l ∧ y = .ref b ∧ SqL K H l xs ∧ SqL K H b zs ∧ xs.length + zs.length ≤ sizeLine ∧ ∀ p, H p = none → Q (.ref p) (upd H p (.lst (xs ++ zs)))
theorem op_catS : OpR C (binaryOp .Add) (rCatS C.K) := by
  intro pins s σ H x y v u Q I rx ry ⟨l, b, xs, zs, ex, ey, hl, hb, hz, q⟩
  subst ex ey
  cases rx
  cases ry
  obtain ⟨its, r1, ⟨c1, d1, dt1, sl1⟩, h1, hc1, n1, hd1⟩ := lstObj I hl
  obtain ⟨its2, r2, ⟨c2, d2, dt2, sl2⟩, h2, hc2, n2, hd2⟩ := lstObj I hb
  simp only at hc1 hd1 hc2 hd2
  subst hc1 hd1 hc2 hd2
  have z1 := r1.length
  have z2 := r2.length
  have fit : its.toArray.size + its2.toArray.size ≤ sizeLine := by rw [List.size_toArray, List.size_toArray]; omega
  have end1 : EP C pins σ Q (.ref s.heap.objs.size) { s with heap := s.heap.push { cls := .type "list", data := .seq (its.toArray ++ its2.toArray) } } := by
    rw [show its.toArray ++ its2.toArray = (its ++ its2).toArray by simp]
    exact ⟨.ref _, _, I.lnew (t' := s.toks) (r1.append r2) (by rw [List.length_append]; omega), rfl, q _ I.fresh⟩
  exact concat_meets ⟨_, h1, rfl⟩ ⟨_, h2, rfl⟩ noFill_list_add seq_list_add PySem.F.slot_list_add PySem.F.entry_list_add (PySem.F.args_list_add_2 _ _)
    (list_addW l b its.toArray its2.toArray n1 n2 d1 d2 sl1 sl2 fit) ⟨h1, h2, end1⟩
theorem at_int {O : Addr → Prop} {H : Hp} {i : Int} : At O H (.int i) (.int i) := by unfold At; rfl
theorem at_bl {O : Addr → Prop} {H : Hp} {i : Bool} : At O H (.bl i) (.bl i) := by unfold At; rfl
theorem at_str {O : Addr → Prop} {H : Hp} {i : Str} : At O H (.str i) (.str i) := by unfold At; rfl
theorem at_non {O : Addr → Prop} {H : Hp} : At O H .non .non := by unfold At; rfl
theorem smallI_iff {i : Int} : smallI i = true ↔ -(2 ^ 64) < i ∧ i < 2 ^ 64 := by
  unfold smallI
  rw [Bool.and_eq_true, decide_eq_true_eq, decide_eq_true_eq]
def CDivA (_ j : Int) : Prop := j ≠ 0 ∧ smallI j = true
theorem op_fdivA : OpR C (binaryOp .FloorDiv) (rI CDivA fun i j => .int (i.fdiv j)) := opI fun i j _ _ _ _ _ hc q => by
  obtain ⟨h1, h2⟩ := hc
  rw [smallI_iff] at h2
  refine floordiv_int h1 q (.inl (PyProof.noPylong_of_log2 ?_))
  have h3 : j.natAbs < 2 ^ 65 := by omega
  exact Nat.lt_of_lt_of_le (PySem.Flt.log2_lt_of (by decide) h3) (by decide)
/-- what an operator gives -/
def rB (K : PySem.W.Frag) (o : Bop) : R2 := fun u v H Q => ∃ (O : Addr → Prop) (d e : D), (∀ b, O b → H b ≠ none) ∧ Any K O H d u ∧ Any K O H e v ∧ ∃ r, binop o d e = .ok r ∧ ∀ w H', Same H H' → ResOk K O H H' r w → Q w H'
theorem op_any : ∀ (o : Bop) (p : Operator), bopOk o p = true → OpR C (binaryOp p) (rB C.K o)
  | .add, .Add, _ => by
    intro pins s σ H u v a b Q I ru rv h
    obtain ⟨O, d, e, hO, hd, he, r, hb, hq⟩ := h
    cases d <;> cases e <;> first
      | (cases (show (Rs.stuck : Rs RV) = Rs.ok r from hb); done)
      | skip
    case int.int i j =>
      cases any_int hd
      cases any_int he
      cases hb
      exact op_add pins s σ H _ _ a b Q I ru rv ⟨i, j, rfl, rfl, hq _ H (.refl H) res_int⟩
    case str.str i j =>
      cases any_str hd
      cases any_str he
      have hb : (if i.length + j.length ≤ lim then Rs.ok (RV.val (.str (i ++ j))) else .stuck) = Rs.ok r := hb
      split at hb
      · cases hb
        rename_i hl
        rw [lim_eq] at hl
        exact op_add_str pins s σ H _ _ a b Q I ru rv ⟨i, j, rfl, rfl, hl, hq _ H (.refl H) res_str⟩
      · cases hb
    case lst.lst i j =>
      have hb : (if i.length + j.length ≤ lim then Rs.ok (RV.own (.lst (i ++ j))) else .stuck) = Rs.ok r := hb
      split at hb
      · cases hb
        rename_i hl
        rw [lim_eq] at hl
        obtain ⟨p, vs, e1, q1, l1⟩ := hd
        obtain ⟨p', vs', e2, q2, l2⟩ := he
        subst e1 e2
        refine op_catS pins s σ H _ _ a b Q I ru rv ⟨p, p', vs, vs', rfl, rfl, q1, q2, ?_, fun t nt => ?_⟩
        · rw [← l1.length, ← l2.length]; exact hl
        · exact hq _ _ (same_new nt _) (own_lst nt (.refl H) (l1.append l2))
      · cases hb
  | .sub, .Sub, _ => by
    intro pins s σ H u v a b Q I ru rv h
    obtain ⟨O, d, e, hO, hd, he, r, hb, hq⟩ := h
    cases d <;> cases e <;> first
      | (cases (show (Rs.stuck : Rs RV) = Rs.ok r from hb); done)
      | skip
    rename_i i j
    cases any_int hd
    cases any_int he
    cases hb
    exact op_sub pins s σ H _ _ a b Q I ru rv ⟨i, j, rfl, rfl, hq _ H (.refl H) res_int⟩
  | .mul, .Mult, _ => by
    intro pins s σ H u v a b Q I ru rv h
    obtain ⟨O, d, e, hO, hd, he, r, hb, hq⟩ := h
    cases d <;> cases e <;> first
      | (cases (show (Rs.stuck : Rs RV) = Rs.ok r from hb); done)
      | skip
    rename_i i j
    cases any_int hd
    cases any_int he
    have hb : (if (smallI i || smallI j) = true then Rs.ok (RV.val (.int (i * j))) else .stuck) = Rs.ok r := hb
    split at hb
    · cases hb
      rename_i hl
      rw [Bool.or_eq_true, smallI_iff, smallI_iff] at hl
      exact op_mul pins s σ H _ _ a b Q I ru rv ⟨i, j, rfl, rfl, hl, hq _ H (.refl H) res_int⟩
    · cases hb
  | .fdiv, .FloorDiv, _ => by
    intro pins s σ H u v a b Q I ru rv h
    obtain ⟨O, d, e, hO, hd, he, r, hb, hq⟩ := h
    cases d <;> cases e <;> first
      | (cases (show (Rs.stuck : Rs RV) = Rs.ok r from hb); done)
      | skip
    rename_i i j
    cases any_int hd
    cases any_int he
    have hb : (if j ≠ 0 ∧ smallI j = true then Rs.ok (RV.val (.int (i.fdiv j))) else .stuck) = Rs.ok r := hb
    split at hb
    · cases hb
      rename_i hl
      exact op_fdivA pins s σ H _ _ a b Q I ru rv ⟨i, j, rfl, rfl, hl, hq _ H (.refl H) res_int⟩
    · cases hb
  | .mod, .Mod, _ => by
    intro pins s σ H u v a b Q I ru rv h
    obtain ⟨O, d, e, hO, hd, he, r, hb, hq⟩ := h
    cases d <;> cases e <;> first
      | (cases (show (Rs.stuck : Rs RV) = Rs.ok r from hb); done)
      | skip
    rename_i i j
    cases any_int hd
    cases any_int he
    have hb : (if j ≠ 0 then Rs.ok (RV.val (.int (i.fmod j))) else .stuck) = Rs.ok r := hb
    split at hb
    · cases hb
      rename_i hl
      exact op_modN pins s σ H _ _ a b Q I ru rv ⟨i, j, rfl, rfl, hl, hq _ H (.refl H) res_int⟩
    · cases hb
theorem binop_cases (o : Bop) (d e : D) : (∃ r, binop o d e = .ok r) ∨ binop o d e = .stuck := by
  cases h : binop o d e with
  | ok r => exact .inl ⟨r, rfl⟩
  | stuck => exact .inr rfl
  | exc c =>
    exfalso
    unfold binop at h
    split at h <;> first
      | cases h
      | (split at h <;> cases h)
theorem c_bin {o : Bop} {p : Operator} (k : bopOk o p = true) (hx : PE C x (cX C Er W f)) (hy : PE C y (cX C Er W g)) :
    PE C (.BinOp x p y pos) (cX C Er W fun e => (f e).bind fun a => (g e).bind fun b => binop o a.d b.d) :=
  pe_case fun σ H Q ⟨O, e, R, hp⟩ => ⟨_, pe_op (op_any o p k) hx hy, tX_bind wants_X (.refl H) R hp fun r v H1 _ s1 a1 R1 p1 => tX_bind wants_X s1 R1 p1 fun r' v' H2 _ s2 a2 R2 p2 => by
    rcases binop_cases o r.d r'.d with ⟨q, hq⟩ | hq
    · rw [hq] at p2
      exact ⟨O, _, _, R2.od, (ResOk.any a1).same s2, ResOk.any a2, q, hq, fun w H' s' a => p2 w H' ((s1.trans s2).trans s') (a.from (s1.trans s2))⟩
    · rw [hq] at p2; exact False.elim p2⟩
theorem c_neg (hx : PE C x (cX C Er W f)) : PE C (.UnaryOp .USub x pos) (cX C Er W fun e => (f e).bind fun a => match a.d with | .int i => .ok (.val (.int (-i))) | _ => .stuck) :=
  pe_case fun σ H Q ⟨O, e, R, hp⟩ => ⟨_, pe_un un_neg hx, tX_bind wants_X (.refl H) R hp fun r v H1 _ s1 a1 R1 p1 => by
    have a := ResOk.any a1
    generalize r.d = d at p1 a
    cases d <;> first
      | exact False.elim (show False from p1)
      | skip
    rename_i i
    have p1 : PostX C.K C.mg W O σ H Q (.ok (.val (.int (-i)))) := p1
    exact ⟨i, any_int a, p1 _ H1 s1 res_int⟩⟩
end
end Ev
set_option Elab.async false
set_option linter.all false
set_option maxRecDepth 100000
set_option maxHeartbeats 4000000
set_option autoImplicit false
/-! Expressions: comparisons, and/or/not, subscripts, slices. -/
namespace Ev
open PySem PySem.Spec PyProof.Rows L2

theorem Rs.assoc {a b c : Type} (x : Rs a) (f : a → Rs b) (g : b → Rs c) : (x.bind f).bind g = x.bind fun y => (f y).bind g := by
  cases x <;> rfl
theorem stuck_no {a : Type} {x : a} (h : (Rs.stuck : Rs a) = .ok x) : False := by cases h
theorem ite_no {p : Prop} [Decidable p] {a : Type} {x y : a} (h : (if p then Rs.ok x else Rs.stuck) = Rs.ok y) : p ∧ x = y := by
  by_cases q : p
  · rw [if_pos q] at h
    cases h
    exact ⟨q, rfl⟩
  · rw [if_neg q] at h
    cases h

/-! ### comparisons -/
def rCA (K : PySem.W.Frag) (o : Cop) : R2 := fun u v H Q => ∃ (O : Addr → Prop) (d e : D) (b : Bool), Any K O H d u ∧ Any K O H e v ∧ cmpop o d e = .ok (.val (.bl b)) ∧ Q (.bl b) H
section
variable {C : Cx}
theorem op_inD (hu : C.A.units + 190 < cLine) : OpR C (compareOp .In) (fun y x H Q => ∃ a o, x = .ref a ∧ DGet H a y o ∧ Q (.bl o.isSome) H) := by
  intro pins s σ H y x v u Q I ry rx ⟨a, o, e, g, q⟩
  subst e
  cases rx
  exact d_in (by omega) I g ry fun s' I' => ⟨.bl _, H, I', rfl, q⟩
theorem op_notinD (hu : C.A.units + 190 < cLine) : OpR C (compareOp .NotIn) (fun y x H Q => ∃ a o, x = .ref a ∧ DGet H a y o ∧ Q (.bl (!o.isSome)) H) := by
  intro pins s σ H y x v u Q I ry rx ⟨a, o, e, g, q⟩
  subst e
  cases rx
  exact d_notIn (by omega) I g ry fun s' I' => ⟨.bl _, H, I', rfl, q⟩
theorem ok_bl {a b : Bool} (h : (Rs.ok (RV.val (.bl a)) : Rs RV) = .ok (.val (.bl b))) : a = b := by
  cases h
  rfl
def isNon : D → Bool
  | .non => true
  | _ => false
theorem any_not_non {K : PySem.W.Frag} {O : Addr → Prop} {H : Hp} {d : D} {v : V} (h : Any K O H d v) : decide (v = .non) = isNon d := by
  cases d <;> first
    | (have h : v = _ := h; rw [h]; rfl)
    | (obtain ⟨a, w, e, _⟩ := h; rw [e]; rfl)
theorem op_cmpA (hu : C.A.units + 190 < cLine) : ∀ (o : Cop) (p : CmpOp), copOk o p = true → OpR C (compareOp p) (rCA C.K o)
  | .eq, .Eq, _ => by
    intro pins s σ H u v a b Q I ru rv ⟨O, d, e, c, hd, he, hb, q⟩
    obtain ⟨k, hb⟩ := ite_no hb
    cases hb
    exact op_eqA hu pins s σ H u v a b Q I ru rv ⟨O, O, d, e, hd, he, k, q⟩
  | .ne, .NotEq, _ => by
    intro pins s σ H u v a b Q I ru rv ⟨O, d, e, c, hd, he, hb, q⟩
    obtain ⟨⟨k, k2⟩, hb⟩ := ite_no hb
    cases hb
    exact op_neA hu pins s σ H u v a b Q I ru rv ⟨O, O, d, e, hd, he, k, k2, q⟩
  | .lt, .Lt, _ => by
    intro pins s σ H u v a b Q I ru rv ⟨O, d, e, c, hd, he, hb, q⟩
    cases d <;> cases e <;> first
      | (exact (stuck_no hb).elim)
      | skip
    rename_i i j
    cases any_int hd
    cases any_int he
    cases ok_bl hb
    exact op_lt pins s σ H _ _ a b Q I ru rv ⟨i, j, rfl, rfl, q⟩
  | .le, .LtE, _ => by
    intro pins s σ H u v a b Q I ru rv ⟨O, d, e, c, hd, he, hb, q⟩
    cases d <;> cases e <;> first
      | (exact (stuck_no hb).elim)
      | skip
    rename_i i j
    cases any_int hd
    cases any_int he
    cases ok_bl hb
    exact op_le pins s σ H _ _ a b Q I ru rv ⟨i, j, rfl, rfl, q⟩
  | .gt, .Gt, _ => by
    intro pins s σ H u v a b Q I ru rv ⟨O, d, e, c, hd, he, hb, q⟩
    cases d <;> cases e <;> first
      | (exact (stuck_no hb).elim)
      | skip
    rename_i i j
    cases any_int hd
    cases any_int he
    cases ok_bl hb
    exact op_gt pins s σ H _ _ a b Q I ru rv ⟨i, j, rfl, rfl, q⟩
  | .ge, .GtE, _ => by
    intro pins s σ H u v a b Q I ru rv ⟨O, d, e, c, hd, he, hb, q⟩
    cases d <;> cases e <;> first
      | (exact (stuck_no hb).elim)
      | skip
    rename_i i j
    cases any_int hd
    cases any_int he
    cases ok_bl hb
    exact op_ge pins s σ H _ _ a b Q I ru rv ⟨i, j, rfl, rfl, q⟩
  | .isN, .Is, _ => by
    intro pins s σ H u v a b Q I ru rv ⟨O, d, e, c, hd, he, hb, q⟩
    have k := any_not_non hd
    refine op_isN pins s σ H _ _ a b Q I ru rv ⟨?_, ?_⟩
    · cases e <;> first
        | exact he
        | (exfalso; cases d <;> exact stuck_no hb)
    · rw [k]
      cases e <;> first
        | (exfalso; cases d <;> exact stuck_no hb)
        | (cases d <;> (cases ok_bl hb; exact q))
  | .notN, .IsNot, _ => by
    intro pins s σ H u v a b Q I ru rv ⟨O, d, e, c, hd, he, hb, q⟩
    have k := any_not_non hd
    refine op_notN pins s σ H _ _ a b Q I ru rv ⟨?_, ?_⟩
    · cases e <;> first
        | exact he
        | (exfalso; cases d <;> exact stuck_no hb)
    · rw [k]
      cases e <;> first
        | (exfalso; cases d <;> exact stuck_no hb)
        | (cases d <;> (cases ok_bl hb; exact q))
  | .inn, .In, _ => by
    intro pins s σ H u v a b Q I ru rv ⟨O, d, e, c, hd, he, hb, q⟩
    cases e with
    | lst xs =>
      obtain ⟨p, vs, e1, r1, l1⟩ := he
      have hb : (if (d.flat && xs.all D.flat) = true then Rs.ok (RV.val (.bl (xs.any fun y => D.eqv y d))) else .stuck) = .ok (.val (.bl c)) := by
        cases d <;> exact hb
      obtain ⟨k, hb⟩ := ite_no hb
      cases hb
      rw [Bool.and_eq_true] at k
      refine op_in_seq pins s σ H _ _ a b Q I ru rv ⟨p, vs, e1, .inl r1, any_flat hd k.1, atL_flat l1 k.2, ?_⟩
      show Q (.bl (inV u vs)) H
      rw [atL_in hd k.1 l1 k.2]
      exact q
    | tup xs =>
      obtain ⟨p, vs, e1, r1, l1⟩ := he
      have hb : (if (d.flat && xs.all D.flat) = true then Rs.ok (RV.val (.bl (xs.any fun y => D.eqv y d))) else .stuck) = .ok (.val (.bl c)) := by
        cases d <;> exact hb
      obtain ⟨k, hb⟩ := ite_no hb
      cases hb
      rw [Bool.and_eq_true] at k
      refine op_in_seq pins s σ H _ _ a b Q I ru rv ⟨p, vs, e1, .inr (.inl r1), any_flat hd k.1, atL_flat l1 k.2, ?_⟩
      show Q (.bl (inV u vs)) H
      rw [atL_in hd k.1 l1 k.2]
      exact q
    | dct ks =>
      cases d <;> first
        | (exact (stuck_no hb).elim)
        | skip
      rename_i x
      obtain ⟨p, kvs, e1, r1, l1⟩ := he
      cases any_str hd
      cases ok_bl hb
      refine op_inD hu pins s σ H _ _ a b Q I ru rv ⟨p, _, e1, .inl ⟨kvs, .inr x, r1, rfl, rfl⟩, ?_⟩
      rw [← AtD.has x l1]
      exact q
    | _ => exfalso; cases d <;> exact stuck_no hb
  | .notin, .NotIn, _ => by
    intro pins s σ H u v a b Q I ru rv ⟨O, d, e, c, hd, he, hb, q⟩
    cases e with
    | lst xs =>
      obtain ⟨p, vs, e1, r1, l1⟩ := he
      have hb : (if (d.flat && xs.all D.flat) = true then Rs.ok (RV.val (.bl (!xs.any fun y => D.eqv y d))) else .stuck) = .ok (.val (.bl c)) := by
        cases d <;> exact hb
      obtain ⟨k, hb⟩ := ite_no hb
      cases hb
      rw [Bool.and_eq_true] at k
      refine op_notIn_seq pins s σ H _ _ a b Q I ru rv ⟨p, vs, e1, .inl r1, any_flat hd k.1, atL_flat l1 k.2, ?_⟩
      show Q (.bl (!inV u vs)) H
      rw [atL_in hd k.1 l1 k.2]
      exact q
    | tup xs =>
      obtain ⟨p, vs, e1, r1, l1⟩ := he
      have hb : (if (d.flat && xs.all D.flat) = true then Rs.ok (RV.val (.bl (!xs.any fun y => D.eqv y d))) else .stuck) = .ok (.val (.bl c)) := by
        cases d <;> exact hb
      obtain ⟨k, hb⟩ := ite_no hb
      cases hb
      rw [Bool.and_eq_true] at k
      refine op_notIn_seq pins s σ H _ _ a b Q I ru rv ⟨p, vs, e1, .inr (.inl r1), any_flat hd k.1, atL_flat l1 k.2, ?_⟩
      show Q (.bl (!inV u vs)) H
      rw [atL_in hd k.1 l1 k.2]
      exact q
    | dct ks =>
      cases d <;> first
        | (exact (stuck_no hb).elim)
        | skip
      rename_i x
      obtain ⟨p, kvs, e1, r1, l1⟩ := he
      cases any_str hd
      cases ok_bl hb
      refine op_notinD hu pins s σ H _ _ a b Q I ru rv ⟨p, _, e1, .inl ⟨kvs, .inr x, r1, rfl, rfl⟩, ?_⟩
      rw [← AtD.has x l1]
      exact q
    | _ => exfalso; cases d <;> exact stuck_no hb
/-- a comparison gives a bool, or nothing -/
theorem cmpop_cases (o : Cop) (d e : D) : (∃ b, cmpop o d e = .ok (.val (.bl b))) ∨ cmpop o d e = .stuck := by
  unfold cmpop
  split <;> first
    | exact .inl ⟨_, rfl⟩
    | exact .inr rfl
    | (split <;> first
      | exact .inl ⟨_, rfl⟩
      | exact .inr rfl)
end

section
variable {C : Cx} {Er : Addr → Str → Prop} {W : WX} {f g h : En → Rs RV} {fs : En → Rs (List RV)} {x y z : Expr} {xs : List Expr} {pos : Pos}
theorem c_cmp (hu : C.A.units + 190 < cLine) {o : Cop} {p : CmpOp} (k : copOk o p = true) (hx : PE C x (cX C Er W f)) (hy : PE C y (cX C Er W g)) (hm : behindInMarks p y = false) :
    PE C (.Compare x [p] [y] pos) (cX C Er W fun e => (f e).bind fun a => (g e).bind fun b => cmpop o a.d b.d) :=
  pe_case fun σ H Q ⟨O, e, R, hp⟩ => ⟨_, pe_cmpR (op_cmpA hu o p k) hx hy hm, tX_bind wants_X (.refl H) R hp fun r v H1 _ s1 a1 R1 p1 => tX_bind wants_X s1 R1 p1 fun r' v' H2 _ s2 a2 R2 p2 => by
    rcases cmpop_cases o r.d r'.d with ⟨b, hq⟩ | hq
    · rw [hq] at p2
      exact ⟨O, _, _, b, (ResOk.any a1).same s2, ResOk.any a2, hq, p2 _ H2 (s1.trans s2) res_bl⟩
    · rw [hq] at p2; exact False.elim p2⟩
theorem c_cmpT (hu : C.A.units + 190 < cLine) {o : Cop} {p : CmpOp} (k : copOk o p = true) (hx : PE C x (cX C Er W f)) (hy : PE C y (cX C Er W g)) (hm : behindInMarks p y = false) :
    PT C (.Compare x [p] [y] pos) (cT C Er W fun e => ((f e).bind fun a => (g e).bind fun b => cmpop o a.d b.d).bind asBl) :=
  pt_case fun σ H Q ⟨O, e, R, hp⟩ => ⟨_, pt_cmpR (op_cmpA hu o p k) hx hy hm, by
    dsimp only at hp
    rw [Rs.assoc] at hp
    refine tX_bind wants_T (.refl H) R hp fun r v H1 _ s1 a1 R1 p1 => ?_
    rw [Rs.assoc] at p1
    refine tX_bind wants_T s1 R1 p1 fun r' v' H2 _ s2 a2 R2 p2 => ?_
    rcases cmpop_cases o r.d r'.d with ⟨b, hq⟩ | hq
    · rw [hq] at p2
      exact ⟨O, _, _, b, (ResOk.any a1).same s2, ResOk.any a2, hq, b, rfl, p2 H2 (s1.trans s2)⟩
    · rw [hq] at p2; exact False.elim p2⟩
/-- an expression whose value is a bool, as a test -/
theorem c_valT (hx : PE C x (cX C Er W f)) (he : ∀ whole, isTrue x C.env whole = (do let v ← whole; standAt x.pos; holding [v] (truthy v))) : PT C x (cT C Er W fun e => (f e).bind asBl) :=
  pt_case fun σ H Q ⟨O, e, R, hp⟩ => ⟨_, pt_val hx he, tX_bind wants_T (.refl H) R hp fun r v H1 _ s1 a1 R1 p1 => by
    rcases asBl_cases r with ⟨b, e1, e2⟩ | e2
    · subst e1
      rw [e2] at p1
      exact ⟨b, any_bl (ResOk.any a1), p1 H1 s1⟩
    · rw [e2] at p1; exact False.elim p1⟩

/-! ### and, or, not -/
theorem bl_back (x : Rs Bool) : ((x.bind fun b => Rs.ok (RV.val (.bl b))).bind asBl) = x := by cases x <;> rfl
section
variable {fb gb : En → Rs Bool} {r : List Expr}
theorem c_andT1 (hx : PT C x (cT C Er W fun e => (f e).bind asBl)) : PW C (.BoolOp .And [x] pos) (cT C Er W fun e => (f e).bind fun v => (asBl v).bind fun b => if b = true then .ok true else .ok false) :=
  pw_case fun σ H Q ⟨O, e, R, hp⟩ => ⟨_, pw_and1 hx, by
    dsimp only at hp
    rw [← Rs.assoc] at hp
    refine tT_bind wants_T (.refl H) R hp fun b H1 _ s1 R1 p1 => ?_
    cases b <;> exact p1 H1 s1⟩
theorem c_andT (hx : PT C x (cT C Er W fun e => (f e).bind asBl)) (hr : PW C (.BoolOp .And (y :: r) pos) (cT C Er W gb)) : PW C (.BoolOp .And (x :: y :: r) pos) (cT C Er W fun e => (f e).bind fun v => (asBl v).bind fun b => if b = true then gb e else .ok false) :=
  pw_case fun σ H Q ⟨O, e, R, hp⟩ => ⟨_, pw_and hx hr, by
    dsimp only at hp
    rw [← Rs.assoc] at hp
    refine tT_bind wants_T (.refl H) R hp fun b H1 _ s1 R1 p1 => ?_
    cases b
    · exact p1 H1 s1
    · exact ⟨O, e, R1, PostT.step p1 s1⟩⟩
theorem c_orT1 (hx : PT C x (cT C Er W fun e => (f e).bind asBl)) : PW C (.BoolOp .Or [x] pos) (cT C Er W fun e => (f e).bind fun v => (asBl v).bind fun b => if b = true then .ok true else .ok false) :=
  pw_case fun σ H Q ⟨O, e, R, hp⟩ => ⟨_, pw_or1 hx, by
    dsimp only at hp
    rw [← Rs.assoc] at hp
    refine tT_bind wants_T (.refl H) R hp fun b H1 _ s1 R1 p1 => ?_
    cases b <;> exact p1 H1 s1⟩
theorem c_orT (hx : PT C x (cT C Er W fun e => (f e).bind asBl)) (hr : PW C (.BoolOp .Or (y :: r) pos) (cT C Er W gb)) : PW C (.BoolOp .Or (x :: y :: r) pos) (cT C Er W fun e => (f e).bind fun v => (asBl v).bind fun b => if b = true then .ok true else gb e) :=
  pw_case fun σ H Q ⟨O, e, R, hp⟩ => ⟨_, pw_or hx hr, by
    dsimp only at hp
    rw [← Rs.assoc] at hp
    refine tT_bind wants_T (.refl H) R hp fun b H1 _ s1 R1 p1 => ?_
    cases b
    · exact ⟨O, e, R1, PostT.step p1 s1⟩
    · exact p1 H1 s1⟩
theorem c_notT (hx : PT C x (cT C Er W fun e => (f e).bind asBl)) : PT C (.UnaryOp .Not x pos) (cT C Er W fun e => ((f e).bind fun v => (asBl v).bind fun b => .ok (.val (.bl !b))).bind asBl) :=
  pt_case fun σ H Q ⟨O, e, R, hp⟩ => ⟨_, pt_not hx, by
    dsimp only at hp
    rw [← Rs.assoc (f e), Rs.assoc] at hp
    exact tT_bind wants_T (.refl H) R hp fun b H1 _ s1 R1 p1 => p1 H1 s1⟩
/-! .. as values -/
theorem c_and1 {op} (hx : PE C x (cX C Er W f)) : PE C (.BoolOp op [x] pos) (cX C Er W fun e => ((f e).bind fun v => (asBl v).bind fun b => if b = true then .ok true else .ok false).bind fun b => .ok (.val (.bl b))) :=
  pe_case fun σ H Q ⟨O, e, R, hp⟩ => ⟨_, pe_one hx, by
    dsimp only at hp
    rw [Rs.assoc] at hp
    refine tX_bind wants_X (.refl H) R hp fun r v H1 _ s1 a1 R1 p1 => ?_
    rcases asBl_cases r with ⟨b, e1, e2⟩ | e2
    · subst e1
      rw [e2] at p1
      cases any_bl (ResOk.any a1)
      cases b <;> exact p1 _ H1 s1 res_bl
    · rw [e2] at p1; exact False.elim p1⟩
theorem c_and (hx : PE C x (cX C Er W f)) (hr : PE C (.BoolOp .And (y :: r) pos) (cX C Er W fun e => (gb e).bind fun b => .ok (.val (.bl b)))) :
    PE C (.BoolOp .And (x :: y :: r) pos) (cX C Er W fun e => ((f e).bind fun v => (asBl v).bind fun b => if b = true then gb e else .ok false).bind fun b => .ok (.val (.bl b))) :=
  pe_case fun σ H Q ⟨O, e, R, hp⟩ => ⟨_, pe_and hx hr, by
    dsimp only at hp
    rw [Rs.assoc] at hp
    refine tX_bind wants_X (.refl H) R hp fun r v H1 _ s1 a1 R1 p1 => ?_
    rcases asBl_cases r with ⟨b, e1, e2⟩ | e2
    · subst e1
      rw [e2] at p1
      cases any_bl (ResOk.any a1)
      refine ⟨b, rfl, ?_⟩
      cases b
      · exact p1 _ H1 s1 res_bl
      · exact ⟨O, e, R1, PostX.step p1 s1⟩
    · rw [e2] at p1; exact False.elim p1⟩
theorem c_or (hx : PE C x (cX C Er W f)) (hr : PE C (.BoolOp .Or (y :: r) pos) (cX C Er W fun e => (gb e).bind fun b => .ok (.val (.bl b)))) :
    PE C (.BoolOp .Or (x :: y :: r) pos) (cX C Er W fun e => ((f e).bind fun v => (asBl v).bind fun b => if b = true then .ok true else gb e).bind fun b => .ok (.val (.bl b))) :=
  pe_case fun σ H Q ⟨O, e, R, hp⟩ => ⟨_, pe_or hx hr, by
    dsimp only at hp
    rw [Rs.assoc] at hp
    refine tX_bind wants_X (.refl H) R hp fun r v H1 _ s1 a1 R1 p1 => ?_
    rcases asBl_cases r with ⟨b, e1, e2⟩ | e2
    · subst e1
      rw [e2] at p1
      cases any_bl (ResOk.any a1)
      refine ⟨b, rfl, ?_⟩
      cases b
      · exact ⟨O, e, R1, PostX.step p1 s1⟩
      · exact p1 _ H1 s1 res_bl
    · rw [e2] at p1; exact False.elim p1⟩
theorem c_not (hx : PE C x (cX C Er W f)) : PE C (.UnaryOp .Not x pos) (cX C Er W fun e => (f e).bind fun v => (asBl v).bind fun b => .ok (.val (.bl !b))) :=
  pe_case fun σ H Q ⟨O, e, R, hp⟩ => ⟨_, pe_not hx, tX_bind wants_X (.refl H) R hp fun r v H1 _ s1 a1 R1 p1 => by
    rcases asBl_cases r with ⟨b, e1, e2⟩ | e2
    · subst e1
      rw [e2] at p1
      exact ⟨b, any_bl (ResOk.any a1), p1 _ H1 s1 res_bl⟩
    · rw [e2] at p1; exact False.elim p1⟩
theorem c_ife (hc : PT C z (cT C Er W fun e => (h e).bind asBl)) (hx : PE C x (cX C Er W f)) (hy : PE C y (cX C Er W g)) :
    PE C (.IfExp z x y pos) (cX C Er W fun e => (h e).bind fun v => (asBl v).bind fun c => if c = true then f e else g e) :=
  pe_case fun σ H Q ⟨O, e, R, hp⟩ => ⟨_, pe_ifExp hc hx hy, by
    dsimp only at hp
    rw [← Rs.assoc] at hp
    refine tT_bind wants_X (.refl H) R hp fun b H1 _ s1 R1 p1 => ?_
    cases b
    · exact ⟨O, e, R1, PostX.step p1 s1⟩
    · exact ⟨O, e, R1, PostX.step p1 s1⟩⟩
end

/-! ### subscripts -/
theorem atL_atI {O : Addr → Prop} {H : Hp} {ds : List D} {vs : List V} (l : AtL O H ds vs) {i : Int} {d : D} (h : atI ds i = some d) : ∃ v, atI vs i = some v ∧ At O H d v := by
  have hl := l.length
  unfold atI at h ⊢
  rw [← hl]
  cases e : ixN ds.length i with
  | none => rw [e] at h; cases h
  | some j =>
    rw [e] at h
    exact l.get h
theorem subop_cases (d e : D) : (∃ r, subop d e = .ok r) ∨ subop d e = .stuck := by
  unfold subop
  split <;> first
    | exact .inr rfl
    | (split <;> first
      | exact .inl ⟨_, rfl⟩
      | exact .inr rfl
      | (split <;> first
        | exact .inl ⟨_, rfl⟩
        | exact .inr rfl))
theorem c_sub (hu : C.A.units + 190 < cLine) (hx : PE C x (cX C Er W f)) (hy : PE C y (cX C Er W g)) (hs : noSlice y = true) :
    PE C (.Subscript x y pos) (cX C Er W fun e => (f e).bind fun a => (g e).bind fun b => subop a.d b.d) := by
  refine pe_case fun σ H Q ⟨O, e, R, hp⟩ => ?_
  by_cases hd : ∃ r kvs, f e = .ok r ∧ r.d = .dct kvs
  · obtain ⟨r0, ks, q0, qd⟩ := hd
    refine ⟨_, pe_dget (by omega) hx hy (ix_plain hs), tX_bind wants_X (.refl H) R hp fun r v H1 q1 s1 a1 R1 p1 => tX_bind wants_X s1 R1 p1 fun r' v' H2 _ s2 a2 R2 p2 => ?_⟩
    rw [q0] at q1
    cases q1
    have a3 := (ResOk.any a1).same s2
    have a4 := ResOk.any a2
    rw [qd] at a3 p2
    generalize r'.d = k at p2 a4
    cases k <;> first
      | exact False.elim (show False from p2)
      | skip
    rename_i k
    cases any_str a4
    obtain ⟨a, kvs, e1, r1, l1⟩ := a3
    have p2 : PostX C.K C.mg W O σ H Q (match look ks k with | some d => .ok (.val d) | none => .stuck) := p2
    rcases AtD.look k l1 with ⟨e2, e3⟩ | ⟨d, w, e2, e3, aw⟩
    · rw [e2] at p2
      exact False.elim (show False from p2)
    · rw [e2] at p2
      exact ⟨a, w, e1, .inl ⟨kvs, .inr k, r1, rfl, e3.symm⟩, p2 w H2 (s1.trans s2) aw⟩
  · refine ⟨_, pe_ix ix_seq hx hy (ix_plain hs), tX_bind wants_X (.refl H) R hp fun r v H1 q1 s1 a1 R1 p1 => tX_bind wants_X s1 R1 p1 fun r' v' H2 _ s2 a2 R2 p2 => ?_⟩
    have nd : ∀ ks, r.d ≠ .dct ks := fun ks z => hd ⟨r, ks, q1, z⟩
    have a3 := (ResOk.any a1).same s2
    have a4 := ResOk.any a2
    generalize r.d = d at p2 a3 nd
    generalize r'.d = k at p2 a4
    cases d with
    | dct ks => exact absurd rfl (nd ks)
    | lst ds =>
      cases k <;> first
        | exact False.elim (show False from p2)
        | skip
      rename_i i
      cases any_int a4
      obtain ⟨a, vs, e1, r1, l1⟩ := a3
      have p2 : PostX C.K C.mg W O σ H Q (match atI ds i with | some d => .ok (.val d) | none => .stuck) := p2
      cases e2 : atI ds i with
      | none => rw [e2] at p2; exact False.elim (show False from p2)
      | some d =>
        rw [e2] at p2
        obtain ⟨w, e3, aw⟩ := atL_atI l1 e2
        exact .inl ⟨a, vs, i, w, e1, rfl, r1, e3, p2 w H2 (s1.trans s2) aw⟩
    | tup ds =>
      cases k <;> first
        | exact False.elim (show False from p2)
        | skip
      rename_i i
      cases any_int a4
      obtain ⟨a, vs, e1, r1, l1⟩ := a3
      have p2 : PostX C.K C.mg W O σ H Q (match atI ds i with | some d => .ok (.val d) | none => .stuck) := p2
      cases e2 : atI ds i with
      | none => rw [e2] at p2; exact False.elim (show False from p2)
      | some d =>
        rw [e2] at p2
        obtain ⟨w, e3, aw⟩ := atL_atI l1 e2
        exact .inr (.inl ⟨a, vs, i, w, e1, rfl, .inl r1, e3, p2 w H2 (s1.trans s2) aw⟩)
    | str z =>
      cases k <;> first
        | exact False.elim (show False from p2)
        | skip
      rename_i i
      cases any_int a4
      cases any_str a3
      have p2 : PostX C.K C.mg W O σ H Q (if z.length ≤ lim then match atI z.cps.toList i with | some c => .ok (.val (.str ⟨#[c]⟩)) | none => .stuck else .stuck) := p2
      by_cases hz : z.length ≤ lim
      · rw [if_pos hz] at p2
        cases e2 : atI z.cps.toList i with
        | none => rw [e2] at p2; exact False.elim (show False from p2)
        | some c =>
          rw [e2] at p2
          exact .inr (.inr ⟨z, i, c, rfl, rfl, by rw [← lim_eq]; exact hz, e2, p2 _ H2 (s1.trans s2) res_str⟩)
      · rw [if_neg hz] at p2; exact False.elim (show False from p2)
    | _ => exact False.elim (show False from p2)

/-! ### slices -/
def partOk (fo : En → Rs (Option Int)) (t : Addr → Prop) : Prop := True
theorem po_case {e : Option Expr} {t' : TO} (h : ∀ σ H Q, t' σ H Q → ∃ t, PO C e t ∧ t σ H Q) : PO C e t' :=
  ⟨fun pins s σ H Q I q => let ⟨_, p, q'⟩ := h σ H Q q; p.run pins s σ H Q I q'⟩
def PostO (K : PySem.W.Frag) (mg : Str → Option Value) (W : WX) (σ : L2.St) (H : Hp) (Q : Option Int → Hp → Prop) : Rs (Option Int) → Prop
  | .ok r => ∀ H', Same H H' → Q r H'
  | .exc c => Lets mg W σ H c
  | .stuck => False
def cO (C : Cx) (Er : Addr → Str → Prop) (W : WX) (f : En → Rs (Option Int)) : TO := fun σ H Q => ∃ O e, ERel C.K Er O e σ H ∧ PostO C.K C.mg W σ H Q (f e)
theorem wants_O {σ : L2.St} {H : Hp} {Q : Option Int → Hp → Prop} : Wants W C.mg σ H (PostO C.K C.mg W σ H Q) := ⟨fun h => h, fun h => h⟩
theorem c_no : PO C none (cO C Er W fun _ => .ok none) := po_case fun σ H Q ⟨O, e, R, hp⟩ => ⟨_, po_none, hp H (.refl H)⟩
theorem c_part (hx : PE C x (cX C Er W f)) : PO C (some x) (cO C Er W fun e => (f e).bind fun r => match r.d with | .int i => .ok (some i) | _ => .stuck) :=
  po_case fun σ H Q ⟨O, e, R, hp⟩ => ⟨_, po_some hx, tX_bind wants_O (.refl H) R hp fun r v H1 _ s1 a1 R1 p1 => by
    have a := ResOk.any a1
    generalize r.d = d at p1 a
    cases d <;> first
      | exact False.elim (show False from p1)
      | skip
    rename_i i
    have p1 : PostO C.K C.mg W σ H Q (.ok (some i)) := p1
    exact ⟨i, any_int a, p1 H1 s1⟩⟩
end
end Ev
set_option Elab.async false
set_option linter.all false
set_option maxRecDepth 100000
set_option maxHeartbeats 4000000
set_option autoImplicit false
/-! Expressions: slices; calls of what is built in. -/
namespace Ev
open PySem PySem.Spec PyProof.Rows L2

/-! ### slices -/
theorem atL_cut {O : Addr → Prop} {H : Hp} {ds : List D} {vs : List V} (l : AtL O H ds vs) (lo hi : Option Int) : AtL O H (cutL ds lo hi) (cutV vs lo hi) := by
  have e := l.length
  unfold cutL cutV
  rw [← e]
  exact AtL.take _ (AtL.drop _ l)
def rSlA1 (K : PySem.W.Frag) : V → Option Int → Option Int → Hp → VK → Prop := fun x lo hi H Q => rSlL K x lo hi H Q ∨ rSlT K x lo hi H Q ∨ rSlS x lo hi H Q
section
variable {C : Cx} {Er : Addr → Str → Prop} {W : WX} {f g h : En → Rs RV} {fs : En → Rs (List RV)} {x y z : Expr} {xs : List Expr} {pos : Pos}
section
variable {B : Type} {P : Rs B → Prop} {H0 H : Hp} {O : Addr → Prop} {e : En} {σ : L2.St}
theorem cO_bind (w : Wants W C.mg σ H0 P) (s0 : Same H0 H) {f : En → Rs (Option Int)} {g : Option Int → Rs B} {Kt : Option Int → Hp → Prop} (R : ERel C.K Er O e σ H) (hp : P ((f e).bind g))
    (k : ∀ r H1, f e = .ok r → Same H H1 → ERel C.K Er O e σ H1 → P (g r) → Kt r H1) : cO C Er W f σ H Kt := by
  refine ⟨O, e, R, ?_⟩
  cases q : f e with
  | stuck => rw [q] at hp; exact (w.stuck hp).elim
  | exc c => rw [q] at hp; exact (w.exc hp).step s0
  | ok r =>
    rw [q] at hp
    exact fun H1 s => k r H1 q s (R.step s) hp
end
theorem c_slc {fl fh : En → Rs (Option Int)} {lo hi : Option Expr} {p2 : Pos} (hx : PE C x (cX C Er W f)) (hl : PO C lo (cO C Er W fl)) (hh : PO C hi (cO C Er W fh)) :
    PE C (.Subscript x (.Slice lo hi none p2) pos) (cX C Er W fun e => (f e).bind fun a => (fl e).bind fun l => (fh e).bind fun h => slcop a.d l h) :=
  pe_case fun σ H Q ⟨O, e, R, hp⟩ => ⟨_, pe_slice (r := rSlA1 C.K) (sl_list.or (sl_tup.or sl_str)) hx hl hh, tX_bind wants_X (.refl H) R hp fun r v H1 _ s1 a1 R1 p1 =>
    cO_bind wants_X s1 R1 p1 fun l H2 _ s2 R2 p2 => cO_bind wants_X (s1.trans s2) R2 p2 fun u H3 _ s3 R3 p3 => by
      have s13 := (s1.trans s2).trans s3
      have a := (ResOk.any a1).same (s2.trans s3)
      generalize r.d = d at p3 a
      cases d with
      | lst ds =>
        obtain ⟨b, vs, e1, r1, l1⟩ := a
        have p3 : PostX C.K C.mg W O σ H Q (.ok (.own (.lst (cutL ds l u)))) := p3
        exact .inl ⟨b, vs, e1, r1, fun p np => p3 _ _ (s13.trans (same_new np _)) (own_lst np s13 (atL_cut l1 l u))⟩
      | tup ds =>
        obtain ⟨b, vs, e1, r1, l1⟩ := a
        have p3 : PostX C.K C.mg W O σ H Q (if HT.sIx ds.length 0 l = 0 ∧ HT.sIx ds.length ds.length u = ds.length then .stuck else .ok (.val (.tup (cutL ds l u)))) := p3
        have el := l1.length
        by_cases hw : HT.sIx ds.length 0 l = 0 ∧ HT.sIx ds.length ds.length u = ds.length
        · rw [if_pos hw] at p3; exact False.elim (show False from p3)
        · rw [if_neg hw] at p3
          exact .inr (.inl ⟨b, vs, e1, .inl r1, by rw [← el]; exact hw, fun p np => p3 _ _ (s13.trans (same_new np _)) (val_tup R3.od np (atL_cut l1 l u))⟩)
      | str z =>
        have p3 : PostX C.K C.mg W O σ H Q (if z.length ≤ lim then .ok (.val (.str (cutS z l u))) else .stuck) := p3
        by_cases hz : z.length ≤ lim
        · rw [if_pos hz] at p3
          cases any_str a
          exact .inr (.inr ⟨z, rfl, by rw [← lim_eq]; exact hz, p3 _ H3 s13 res_str⟩)
        · rw [if_neg hz] at p3; exact False.elim (show False from p3)
      | _ => exact False.elim (show False from p3)⟩
end

/-! ### what is built in -/
def AnyL (K : PySem.W.Frag) (O : Addr → Prop) (H : Hp) : List D → List V → Prop
  | [], vs => vs = []
  | d :: ds, vs => ∃ v r, vs = v :: r ∧ Any K O H d v ∧ AnyL K O H ds r
theorem ResL.anyL {K : PySem.W.Frag} {O : Addr → Prop} {H H1 : Hp} : ∀ {rs : List RV} {vs : List V}, ResL K O H H1 rs vs → AnyL K O H1 (rs.map RV.d) vs
  | [], _, h => h
  | _ :: _, _, ⟨v, t, e, a, l⟩ => ⟨v, t, e, a.any, ResL.anyL l⟩
def rBfn (K : PySem.W.Frag) (b : Bfn) : List V → Hp → VK → Prop := fun xs H Q => ∃ (O : Addr → Prop) (ds : List D) (r : RV), (∀ b, O b → H b ≠ none) ∧ AnyL K O H ds xs ∧ bfnop b ds = .ok r ∧
  ∀ w H', Same H H' → ResOk K O H H' r w → Q w H'
def bfnV : Bfn → Value
  | .len => .builtin "len" | .abs => .builtin "abs" | .max2 => .builtin "max" | .min2 => .builtin "min" | .max1 => .builtin "max" | .sum => .builtin "sum" | .all => .builtin "all" | .repr => .builtin "repr"
  | .int1 => .type "int" | .list1 => .type "list" | .dict1 => .type "dict"
theorem anyL1 {K : PySem.W.Frag} {O : Addr → Prop} {H : Hp} {d : D} {vs : List V} (h : AnyL K O H [d] vs) : ∃ v, vs = [v] ∧ Any K O H d v := by
  obtain ⟨v, r, e, a, l⟩ := h
  have l : r = [] := l
  rw [l] at e
  exact ⟨v, e, a⟩
theorem anyL2 {K : PySem.W.Frag} {O : Addr → Prop} {H : Hp} {d d' : D} {vs : List V} (h : AnyL K O H [d, d'] vs) : ∃ v v', vs = [v, v'] ∧ Any K O H d v ∧ Any K O H d' v' := by
  obtain ⟨v, r, e, a, l⟩ := h
  obtain ⟨v', e', a'⟩ := anyL1 l
  rw [e'] at e
  exact ⟨v, v', e, a, a'⟩
section
variable {K : PySem.W.Frag} {O : Addr → Prop} {H : Hp}
theorem bind_ok_eq {a b : Type} {x : Rs a} {f : a → Rs b} {r : b} (h : x.bind f = .ok r) : ∃ y, x = .ok y ∧ f y = .ok r := by
  cases x with
  | ok y => exact ⟨y, rfl, h⟩
  | exc c => cases h
  | stuck => cases h
theorem ok_inj {a : Type} {x y : a} (h : Rs.ok x = Rs.ok y) : x = y := by cases h; rfl
theorem ints_at : ∀ {ds : List D} {vs : List V} {ns : List Int}, AtL O H ds vs → intsOf ds = .ok ns → vs = ns.map V.int ∧ ds.length = ns.length
  | [], vs, ns, l, e => by
    cases e
    unfold AtL at l
    exact ⟨l, rfl⟩
  | d :: ds, vs, ns, l, e => by
    unfold AtL at l
    obtain ⟨v, r, ev, a, l⟩ := l
    cases d <;> first
      | exact (stuck_no e).elim
      | skip
    obtain ⟨ms, e1, e2⟩ := bind_ok_eq (show (intsOf ds).bind (fun l => Rs.ok (_ :: l)) = .ok ns from e)
    cases e2
    obtain ⟨h1, h2⟩ := ints_at l e1
    unfold At at a
    rw [ev, a, h1, List.map_cons, List.length_cons, List.length_cons, h2]
    exact ⟨rfl, rfl⟩
theorem bools_at : ∀ {ds : List D} {vs : List V} {ns : List Bool}, AtL O H ds vs → boolsOf ds = .ok ns → vs = ns.map V.bl ∧ ds.length = ns.length
  | [], vs, ns, l, e => by
    cases e
    unfold AtL at l
    exact ⟨l, rfl⟩
  | d :: ds, vs, ns, l, e => by
    unfold AtL at l
    obtain ⟨v, r, ev, a, l⟩ := l
    cases d <;> first
      | exact (stuck_no e).elim
      | skip
    obtain ⟨ms, e1, e2⟩ := bind_ok_eq (show (boolsOf ds).bind (fun l => Rs.ok (_ :: l)) = .ok ns from e)
    cases e2
    obtain ⟨h1, h2⟩ := bools_at l e1
    unfold At at a
    rw [ev, a, h1, List.map_cons, List.length_cons, List.length_cons, h2]
    exact ⟨rfl, rfl⟩
theorem strs_at : ∀ {ds : List D} {vs : List V} {ns : List Str}, AtL O H ds vs → strsOf ds = .ok ns → vs = ns.map V.str ∧ ds.length = ns.length
  | [], vs, ns, l, e => by
    cases e
    unfold AtL at l
    exact ⟨l, rfl⟩
  | d :: ds, vs, ns, l, e => by
    unfold AtL at l
    obtain ⟨v, r, ev, a, l⟩ := l
    cases d <;> first
      | exact (stuck_no e).elim
      | skip
    obtain ⟨ms, e1, e2⟩ := bind_ok_eq (show (strsOf ds).bind (fun l => Rs.ok (_ :: l)) = .ok ns from e)
    cases e2
    obtain ⟨h1, h2⟩ := strs_at l e1
    unfold At at a
    rw [ev, a, h1, List.map_cons, List.length_cons, List.length_cons, h2]
    exact ⟨rfl, rfl⟩
theorem pairs_shape {d : D} {ds : List D} {ns : List (Str × D)} (e : pairsOf (d :: ds) = .ok ns) : ∃ k v ms, d = .tup [.str k, v] ∧ pairsOf ds = .ok ms ∧ ns = (k, v) :: ms := by
  unfold pairsOf at e
  split at e
  · rename_i h
    cases h
  · rename_i k v r h
    cases h
    obtain ⟨ms, e1, e2⟩ := bind_ok_eq e
    exact ⟨k, v, ms, rfl, e1, (ok_inj e2).symm⟩
  · exact (stuck_no e).elim
theorem tups_at : ∀ {ds : List D} {vs : List V} {ns : List (Str × D)}, AtL O H ds vs → pairsOf ds = .ok ns →
    ∃ (ps : List Addr) (kvs : List (Key × V)), vs = ps.map V.ref ∧ Paired (fun p kv => SqT K H p [kV kv.1, kv.2]) ps kvs ∧ AtD O H ns kvs
  | [], vs, ns, l, e => by
    cases e
    unfold AtL at l
    exact ⟨[], [], l, .nil, .nil⟩
  | d :: ds, vs, ns, l, e => by
    unfold AtL at l
    obtain ⟨v, r, ev, a, l⟩ := l
    obtain ⟨k, x, ms, e0, e1, e2⟩ := pairs_shape e
    obtain ⟨ps, kvs, h1, h2, h3⟩ := tups_at l e1
    subst e0
    unfold At at a
    obtain ⟨p, ws, ep, _, rp, lp⟩ := a
    unfold AtL at lp
    obtain ⟨w1, t1, ew1, a1, lp⟩ := lp
    unfold AtL at lp
    obtain ⟨w2, t2, ew2, a2, lp⟩ := lp
    unfold AtL at lp
    unfold At at a1
    rw [lp] at ew2
    rw [ew2, a1] at ew1
    rw [ew1] at rp
    rw [ev, ep, h1, e2]
    exact ⟨p :: ps, (.inr k, w2) :: kvs, rfl, .cons (.inl rp) h2, .cons a2 h3⟩
theorem maxL_mem : ∀ {l : List Int}, l ≠ [] → maxL l ∈ l ∧ ∀ y, y ∈ l → y ≤ maxL l
  | [], h => absurd rfl h
  | [i], _ => ⟨List.mem_cons_self, fun y hy => by rw [List.mem_singleton] at hy; rw [hy]; exact Int.le_refl _⟩
  | i :: j :: r, _ => by
    obtain ⟨h1, h2⟩ := maxL_mem (l := j :: r) (fun z => by cases z)
    have e : maxL (i :: j :: r) = max i (maxL (j :: r)) := rfl
    rw [e]
    refine ⟨?_, fun y hy => ?_⟩
    · by_cases q : i ≤ maxL (j :: r)
      · rw [Int.max_eq_right q]; exact List.mem_cons_of_mem _ h1
      · rw [Int.max_eq_left (by omega)]; exact List.mem_cons_self
    · rcases List.mem_cons.mp hy with hy | hy
      · rw [hy]; omega
      · have := h2 y hy; omega
theorem keys_at : ∀ {ks : List (Str × D)} {vs : List (Key × V)}, AtD O H ks vs → AtL O H (ks.map fun kv => .str kv.1) (vs.map fun kv => kV kv.1)
  | [], _, h => by unfold AtD at h; rw [h]; exact .nil
  | (k, d) :: ks, _, h => by
    unfold AtD at h
    obtain ⟨v, r, e, a, l⟩ := h
    rw [e]
    exact .cons at_str (keys_at l)
end
section
variable {C : Cx}
theorem call_bfn (hc : C.calm = true) (hg : C.A.guards = some []) (hu : C.A.units + 190 < cLine) (hs : SysAt C.base) : ∀ b : Bfn, CallR C (bfnV b) (rBfn C.K b)
  | .len => by
    intro pins s σ H xs us Q I rv ⟨O, ds, r, hO, al, hb, q⟩
    unfold bfnop at hb
    split at hb <;> first
      | (cases ‹Bfn.len = _›; done)
      | skip
    · rename_i ys _
      obtain ⟨k, hb⟩ := ite_no hb
      cases hb
      obtain ⟨v, e1, b, vs, e2, r1, l1⟩ := anyL1 al
      subst e1 e2
      exact call_len_seq pins s σ H _ us Q I rv ⟨b, vs, rfl, .inl r1, by rw [← l1.length]; exact q _ H (.refl H) res_int⟩
    · rename_i ys _
      obtain ⟨k, hb⟩ := ite_no hb
      cases hb
      obtain ⟨v, e1, b, vs, e2, r1, l1⟩ := anyL1 al
      subst e1 e2
      exact call_len_seq pins s σ H _ us Q I rv ⟨b, vs, rfl, .inr (.inl r1), by rw [← l1.length]; exact q _ H (.refl H) res_int⟩
    · rename_i ys _
      obtain ⟨k, hb⟩ := ite_no hb
      cases hb
      obtain ⟨v, e1, b, vs, e2, r1, l1⟩ := anyL1 al
      subst e1 e2
      obtain ⟨u, eu, ru⟩ := vals1 rv
      subst eu
      cases ru
      exact d_len I r1 fun t s' I' => ⟨.int _, H, I', ⟨_, rfl⟩, by rw [← l1.length]; exact q _ H (.refl H) res_int⟩
    · rename_i z _
      obtain ⟨k, hb⟩ := ite_no hb
      cases hb
      obtain ⟨v, e1, e2⟩ := anyL1 al
      cases any_str e2
      subst e1
      exact call_len pins s σ H _ us Q I rv ⟨_, _, rfl, ⟨by rw [← lim_eq]; exact k, rfl⟩, q _ H (.refl H) res_int⟩
    · exact (stuck_no hb).elim
  | .abs => by
    intro pins s σ H xs us Q I rv ⟨O, ds, r, hO, al, hb, q⟩
    unfold bfnop at hb
    split at hb <;> first
      | (cases ‹Bfn.abs = _›; done)
      | skip
    · rename_i i _
      cases hb
      obtain ⟨v, e1, e2⟩ := anyL1 al
      cases any_int e2
      subst e1
      exact call_abs pins s σ H _ us Q I rv ⟨_, rfl, q _ H (.refl H) res_int⟩
    · exact (stuck_no hb).elim
  | .max2 => by
    intro pins s σ H xs us Q I rv ⟨O, ds, r, hO, al, hb, q⟩
    unfold bfnop at hb
    split at hb <;> first
      | (cases ‹Bfn.max2 = _›; done)
      | skip
    · rename_i i j _
      cases hb
      obtain ⟨v, v', e1, e2, e3⟩ := anyL2 al
      cases any_int e2
      cases any_int e3
      subst e1
      exact call_max2 hc pins s σ H _ us Q I rv ⟨_, _, rfl, q _ H (.refl H) res_int⟩
    · exact (stuck_no hb).elim
  | .min2 => by
    intro pins s σ H xs us Q I rv ⟨O, ds, r, hO, al, hb, q⟩
    unfold bfnop at hb
    split at hb <;> first
      | (cases ‹Bfn.min2 = _›; done)
      | skip
    · rename_i i j _
      cases hb
      obtain ⟨v, v', e1, e2, e3⟩ := anyL2 al
      cases any_int e2
      cases any_int e3
      subst e1
      exact call_min2 hc pins s σ H _ us Q I rv ⟨_, _, rfl, q _ H (.refl H) res_int⟩
    · exact (stuck_no hb).elim
  | .max1 => by
    intro pins s σ H xs us Q I rv ⟨O, ds, r, hO, al, hb, q⟩
    unfold bfnop at hb
    split at hb <;> first
      | (cases ‹Bfn.max1 = _›; done)
      | skip
    · rename_i y ys _
      obtain ⟨ns, h1, h2⟩ := bind_ok_eq hb
      cases h2
      obtain ⟨v, e1, b, vs, e2, r1, l1⟩ := anyL1 al
      subst e1 e2
      obtain ⟨g1, g2⟩ := ints_at l1 h1
      rw [g1] at r1
      have hne : ns ≠ [] := fun z => by rw [z] at g2; cases g2
      refine cr_max hc pins s σ H _ us Q I rv ⟨b, ns, rfl, r1, by rw [← g2]; exact Nat.succ_pos _, fun m hm hy => ?_⟩
      obtain ⟨k1, k2⟩ := maxL_mem hne
      have e : m = maxL ns := by
        have := hy _ k1
        have := k2 _ hm
        omega
      rw [e]
      exact q _ H (.refl H) res_int
    · exact (stuck_no hb).elim
  | .sum => by
    intro pins s σ H xs us Q I rv ⟨O, ds, r, hO, al, hb, q⟩
    unfold bfnop at hb
    split at hb <;> first
      | (cases ‹Bfn.sum = _›; done)
      | skip
    · rename_i ys _
      obtain ⟨ns, h1, h2⟩ := bind_ok_eq hb
      cases h2
      obtain ⟨v, e1, b, vs, e2, r1, l1⟩ := anyL1 al
      subst e1 e2
      obtain ⟨g1, g2⟩ := ints_at l1 h1
      rw [g1] at r1
      exact cr_sum hc pins s σ H _ us Q I rv ⟨b, ns, rfl, r1, q _ H (.refl H) res_int⟩
    · exact (stuck_no hb).elim
  | .all => by
    intro pins s σ H xs us Q I rv ⟨O, ds, r, hO, al, hb, q⟩
    unfold bfnop at hb
    split at hb <;> first
      | (cases ‹Bfn.all = _›; done)
      | skip
    · rename_i ys _
      obtain ⟨ns, h1, h2⟩ := bind_ok_eq hb
      cases h2
      obtain ⟨v, e1, b, vs, e2, r1, l1⟩ := anyL1 al
      subst e1 e2
      obtain ⟨g1, g2⟩ := bools_at l1 h1
      rw [g1] at r1
      exact cr_all hc pins s σ H _ us Q I rv ⟨b, ns, rfl, r1, q _ H (.refl H) res_bl⟩
    · exact (stuck_no hb).elim
  | .repr => by
    intro pins s σ H xs us Q I rv ⟨O, ds, r, hO, al, hb, q⟩
    unfold bfnop at hb
    split at hb <;> first
      | (cases ‹Bfn.repr = _›; done)
      | skip
    · rename_i d _
      obtain ⟨k, hb⟩ := ite_no hb
      cases hb
      obtain ⟨v, e1, e2⟩ := anyL1 al
      exact call_reprA hg hu hs pins s σ H _ us Q I rv ⟨O, d, v, e1, e2, k, q _ H (.refl H) res_str⟩
    · exact (stuck_no hb).elim
  | .int1 => by
    intro pins s σ H xs us Q I rv ⟨O, ds, r, hO, al, hb, q⟩
    unfold bfnop at hb
    split at hb <;> first
      | (cases ‹Bfn.int1 = _›; done)
      | skip
    · rename_i i _
      cases hb
      obtain ⟨v, e1, e2⟩ := anyL1 al
      cases any_int e2
      subst e1
      exact call_int1 pins s σ H _ us Q I rv (.inl ⟨_, rfl, q _ H (.refl H) res_int⟩)
    · rename_i i _
      cases hb
      obtain ⟨v, e1, e2⟩ := anyL1 al
      cases any_bl e2
      subst e1
      exact call_int1 pins s σ H _ us Q I rv (.inr ⟨_, rfl, q _ H (.refl H) res_int⟩)
    · exact (stuck_no hb).elim
  | .list1 => by
    intro pins s σ H xs us Q I rv ⟨O, ds, r, hO, al, hb, q⟩
    unfold bfnop at hb
    split at hb <;> first
      | (cases ‹Bfn.list1 = _›; done)
      | skip
    · rename_i ks _
      cases hb
      obtain ⟨v, e1, b, vs, e2, r1, l1⟩ := anyL1 al
      subst e1 e2
      exact call_listD hc pins s σ H _ us Q I rv ⟨b, vs, rfl, r1, fun p np => q _ _ (same_new np _) (own_lst np (.refl H) (keys_at l1))⟩
    · rename_i ys _
      cases hb
      obtain ⟨v, e1, b, vs, e2, r1, l1⟩ := anyL1 al
      subst e1 e2
      exact call_list_of pins s σ H _ us Q I rv ⟨b, vs, rfl, .inl r1, fun p np => q _ _ (same_new np _) (own_lst np (.refl H) l1)⟩
    · exact (stuck_no hb).elim
  | .dict1 => by
    intro pins s σ H xs us Q I rv ⟨O, ds, r, hO, al, hb, q⟩
    unfold bfnop at hb
    split at hb <;> first
      | (cases ‹Bfn.dict1 = _›; done)
      | skip
    · rename_i ks _
      cases hb
      obtain ⟨v, e1, b, vs, e2, r1, l1⟩ := anyL1 al
      subst e1 e2
      exact call_dictD pins s σ H _ us Q I rv ⟨b, vs, rfl, r1, fun p np => q _ _ (same_new np _) (own_dct np (.refl H) l1)⟩
    · rename_i ys _
      by_cases k : ys.length ≤ lim
      case neg => rw [if_neg k] at hb; exact (stuck_no hb).elim
      rw [if_pos k] at hb
      obtain ⟨ns, h1, h2⟩ := bind_ok_eq hb
      cases h2
      obtain ⟨v, e1, b, vs, e2, r1, l1⟩ := anyL1 al
      subst e1 e2
      obtain ⟨ps, kvs, g1, g2, g3⟩ := tups_at (K := C.K) l1 h1
      rw [g1] at r1
      exact call_dictP hc pins s σ H _ us Q I rv ⟨b, ps, kvs, rfl, r1, g2, fun p np => q _ _ (same_new np _) (own_dct np (.refl H) (AtD.merge g3 .nil))⟩
    · exact (stuck_no hb).elim
end
end Ev
set_option Elab.async false
set_option linter.all false
set_option maxRecDepth 100000
set_option maxHeartbeats 4000000
set_option autoImplicit false
/-! Expressions: calls of what is built in, isinstance, methods, dicts. -/
namespace Ev
open PySem PySem.Spec PyProof.Rows L2

section
variable {C : Cx} {Er : Addr → Str → Prop} {W : WX} {f g h : En → Rs RV} {fs : En → Rs (List RV)} {x y z : Expr} {xs : List Expr} {pos p : Pos}
/-- the names of what is built in stand for it -/
structure BltOk (C : Cx) : Prop where
  no : ∀ n, n ∈ (["len", "abs", "max", "min", "sum", "all", "repr", "int", "list", "dict", "isinstance", "range", "enumerate", "zip", "reversed", "bool", "str", "tuple"] : List Str) → C.mg n = none
theorem bfn_in (b : Bfn) : bfnName b ∈ (["len", "abs", "max", "min", "sum", "all", "repr", "int", "list", "dict", "isinstance", "range", "enumerate", "zip", "reversed", "bool", "str", "tuple"] : List Str) := by
  cases b <;> decide
theorem ty_in (b : Ty) : tyName b ∈ (["len", "abs", "max", "min", "sum", "all", "repr", "int", "list", "dict", "isinstance", "range", "enumerate", "zip", "reversed", "bool", "str", "tuple"] : List Str) := by
  cases b <;> decide
theorem bindB_X {t : TA} {Q : VK} {B : Type} (x : B) : True := True.intro
theorem c_bfn {b : Bfn} (hc : C.calm = true) (hg : C.A.guards = some []) (hu : C.A.units + 190 < cLine) (hs : SysAt C.base) (hb : BltOk C) (gl : Gl C (bfnName b)) (hx : PA C (x :: xs) (cXs C Er W fs)) (ns : (x :: xs).all noStar = true) :
    PE C (.Call (.Name (bfnName b) p) (x :: xs) [] pos) (cX C Er W fun e => (fs e).bind fun rs => bfnop b (rs.map RV.d)) := by
  have hr := call_bfn hc hg hu hs b
  rw [List.all_cons, Bool.and_eq_true] at ns
  have he := star_cons ns.1 xs C.env
  have hp1 : (backTo pos (starEach xs C.env)).any (·.1) = false := star_any ns.2
  have k : PE C (.Call (.Name (bfnName b) p) (x :: xs) [] pos) (tCB (rBfn C.K b) (cXs C Er W fs)) := by
    cases b
    case int1 => exact pe_callTy hr gl (hb.no _ (bfn_in .int1)) rfl hx (by decide) (by decide) he hp1
    case list1 => exact pe_callTy hr gl (hb.no _ (bfn_in .list1)) rfl hx (by decide) (by decide) he hp1
    case dict1 => exact pe_callTy hr gl (hb.no _ (bfn_in .dict1)) rfl hx (by decide) (by decide) he hp1
    case len => exact pe_callB hr gl (hb.no _ (bfn_in .len)) rfl hx (by decide) (by decide) he hp1
    case abs => exact pe_callB hr gl (hb.no _ (bfn_in .abs)) rfl hx (by decide) (by decide) he hp1
    case max2 => exact pe_callB hr gl (hb.no _ (bfn_in .max2)) rfl hx (by decide) (by decide) he hp1
    case min2 => exact pe_callB hr gl (hb.no _ (bfn_in .min2)) rfl hx (by decide) (by decide) he hp1
    case max1 => exact pe_callB hr gl (hb.no _ (bfn_in .max1)) rfl hx (by decide) (by decide) he hp1
    case sum => exact pe_callB hr gl (hb.no _ (bfn_in .sum)) rfl hx (by decide) (by decide) he hp1
    case all => exact pe_callB hr gl (hb.no _ (bfn_in .all)) rfl hx (by decide) (by decide) he hp1
    case repr => exact pe_callB hr gl (hb.no _ (bfn_in .repr)) rfl hx (by decide) (by decide) he hp1
  refine pe_case fun σ H Q ⟨O, e, R, hp⟩ => ⟨_, k, ?_⟩
  show cXs C Er W fs σ H (fun vs H1 => rBfn C.K b vs H1 Q)
  refine tXs_bind wants_X (.refl H) R hp fun rs vs H1 _ s1 l1 R1 p1 => ?_
  cases q : bfnop b (rs.map RV.d) with
  | ok r =>
    rw [q] at p1
    exact ⟨O, _, r, R1.od, l1.anyL, q, fun w H' s a => p1 w H' (s1.trans s) (a.from s1)⟩
  | stuck => rw [q] at p1; exact False.elim (show False from p1)
  | exc c =>
    exfalso
    unfold bfnop at q
    have n1 : ∀ {l : List D} {c : Str}, intsOf l ≠ .exc c := fun {l} => by
      induction l with
      | nil => intro c z; cases z
      | cons d r ih =>
        intro c z
        cases d <;> first
          | (cases z; done)
          | skip
        have z : (intsOf r).bind (fun l => Rs.ok (_ :: l)) = .exc c := z
        cases q : intsOf r with
        | ok l => rw [q] at z; cases z
        | stuck => rw [q] at z; cases z
        | exc c' => exact ih q
    have n2 : ∀ {l : List D} {c : Str}, boolsOf l ≠ .exc c := fun {l} => by
      induction l with
      | nil => intro c z; cases z
      | cons d r ih =>
        intro c z
        cases d <;> first
          | (cases z; done)
          | skip
        have z : (boolsOf r).bind (fun l => Rs.ok (_ :: l)) = .exc c := z
        cases q : boolsOf r with
        | ok l => rw [q] at z; cases z
        | stuck => rw [q] at z; cases z
        | exc c' => exact ih q
    have n3 : ∀ (n : Nat) (l : List D) (c : Str), l.length ≤ n → pairsOf l ≠ .exc c := by
      intro n
      induction n with
      | zero =>
        intro l c hl z
        cases l with
        | nil => cases z
        | cons d r => cases hl
      | succ n ih =>
        intro l c hl z
        unfold pairsOf at z
        split at z
        · cases z
        · rename_i k v r
          cases q : pairsOf r with
          | ok l => rw [q] at z; cases z
          | stuck => rw [q] at z; cases z
          | exc c' => exact ih r c' (by simp only [List.length_cons] at hl; omega) q
        · cases z
    have n4 : ∀ {A : Type} {y : Rs A} {f : A → Rs RV}, (∀ c, y ≠ .exc c) → (∀ a c, f a ≠ .exc c) → y.bind f ≠ .exc c := fun {A y f} h1 h2 z => by
      cases y with
      | ok a => exact h2 a c z
      | stuck => cases z
      | exc c' => exact h1 c' rfl
    split at q <;> first
      | (cases q; done)
      | (split at q <;> (cases q; done))
      | exact n4 (fun _ => n1) (fun _ _ z => by cases z) q
      | exact n4 (fun _ => n2) (fun _ _ z => by cases z) q
      | (split at q <;> first
        | (cases q; done)
        | exact n4 (fun _ => n3 _ _ _ (Nat.le_refl _)) (fun _ _ z => by cases z) q)

/-! ### isinstance -/
def tyNm : D → String
  | .non => "NoneType" | .bl _ => "bool" | .int _ => "int" | .str _ => "str" | .tup _ => "tuple" | .lst _ => "list" | .dct _ => "dict"
def tyS : Ty → String
  | .int => "int" | .bool => "bool" | .str => "str" | .tuple => "tuple" | .dict => "dict" | .list => "list"
theorem any_ty {K : PySem.W.Frag} {O : Addr → Prop} {H : Hp} {d : D} {v : V} (h : Any K O H d v) : TyX K H v (.type (tyNm d)) := by
  cases d with
  | non => have h : v = _ := h; rw [h]; exact .base .non
  | bl b => have h : v = _ := h; rw [h]; exact .base (.bl b)
  | int i => have h : v = _ := h; rw [h]; exact .base (.int i)
  | str x => have h : v = _ := h; rw [h]; exact .base (.str x)
  | tup ds =>
    obtain ⟨a, vs, e, r, _⟩ := h
    rw [e]
    rcases r with r | ⟨o, r⟩
    · exact .base (.tup r)
    · exact .fTuple r
  | lst ds =>
    obtain ⟨a, vs, e, r, _⟩ := h
    rw [e]
    rcases r with (r | ⟨o, r⟩) | ⟨o, its, n, r, c, _⟩
    · exact .base (.lst r)
    · exact .base (.frz r)
    · exact .kList r c
  | dct ks =>
    obtain ⟨a, kvs, e, r, _⟩ := h
    rw [e]
    rcases r with r | ⟨o, r⟩
    · exact .base (.dK r)
    · exact .fDict r
theorem kit_d (K : PySem.W.Frag) (d : D) (t : Ty) : PySem.W.kitOne K (.type (tyNm d)) (.type (tyS t)) = some (d.isTy t) := by
  refine kit_ty ?_
  cases d <;> cases t <;> (dsimp only [tyNm, tyS, D.isTy]; decide +kernel)
theorem kit_ds (K : PySem.W.Frag) (d : D) : ∀ ts : List Ty, PySem.W.kitAny K (.type (tyNm d)) (ts.map fun t => .type (tyS t)) = some (ts.any (d.isTy ·))
  | [] => kitAny_nil
  | t :: ts => by
    refine kitAny_cons (kit_d K d t) (fun e => ?_) (fun e => ?_)
    · rw [List.any_cons, e, Bool.false_or]; exact kit_ds K d ts
    · rw [List.any_cons, e, Bool.true_or]
theorem boot_ty (t : Ty) : bootBuiltins (tyName t) = some (.type (tyS t)) := by cases t <;> rfl
theorem ty_plain (t : Ty) : tyName t ≠ "__name__" ∧ (tyName t == ("__debug__" : Str)) = false := by cases t <;> decide
theorem pe_tyn (hb : BltOk C) {t : Ty} (gl : Gl C (tyName t)) : PE C (.Name (tyName t) p) (tC (.ty (tyS t))) :=
  pe_bltn (v := .ty (tyS t)) gl (hb.no _ (ty_in t)) (boot_ty t) rfl (ty_plain t).1 (ty_plain t).2
/-- a list of names of types -/
theorem pa_tys (hb : BltOk C) : ∀ {ts : List Ty} {es : List Expr}, (∀ e, e ∈ es → noStar e = true) → tysOk C.env.scope ts es = true → (∀ n, glB C.env.scope n = true → Gl C n) → PA C es (fun _ H Q => Q (ts.map fun t => .ty (tyS t)) H)
  | [], [], _, _, _ => pa_nil
  | t :: ts, e :: es, ns, h, gl => by
    unfold tysOk at h
    rw [Bool.and_eq_true] at h
    have h1 := h.1
    unfold isNm at h1
    split at h1
    · rename_i y q
      rw [Bool.and_eq_true, Bool.and_eq_true, decide_eq_true_eq] at h1
      obtain ⟨⟨e1, h2⟩, _⟩ := h1
      subst e1
      exact pa_cons (pe_tyn hb (gl _ h2)) (pa_tys hb (fun z hz => ns z (List.mem_cons_of_mem _ hz)) h.2 gl) (star_cons (ns _ List.mem_cons_self) _ _)
    · cases h1
theorem c_isi1 (hb : BltOk C) {t : Ty} (g1 : Gl C "isinstance") (g2 : Gl C (tyName t)) {p3 : Pos} (hx : PE C x (cX C Er W f)) (ns : noStar x = true) :
    PE C (.Call (.Name "isinstance" p) [x, .Name (tyName t) p3] [] pos) (cX C Er W fun e => (f e).bind fun v => .ok (.val (.bl (([t] : List Ty).any (v.d.isTy ·))))) :=
  pe_case fun σ H Q ⟨O, e, R, hp⟩ => ⟨_, pe_callB call_isi g1 (hb.no _ (by decide)) rfl (pa_cons hx (pa_cons (pe_tyn hb g2) pa_nil) (star_cons ns _ _)) (by decide) (by decide) (star_cons ns _ _) rfl,
    tX_bind wants_X (.refl H) R hp fun r v H1 _ s1 a1 R1 p1 => ⟨v, .ty (tyS t), .type (tyNm r.d), .type (tyS t), r.d.isTy t, rfl, .ty _, any_ty (ResOk.any a1), kit_d _ _ _, by
      have p1 : PostX C.K C.mg W O σ H Q (.ok (.val (.bl (([t] : List Ty).any (r.d.isTy ·))))) := p1
      have e1 : ([t] : List Ty).any (r.d.isTy ·) = r.d.isTy t := by simp
      rw [e1] at p1
      exact p1 _ H1 s1 res_bl⟩⟩
theorem paired_ty : ∀ ts : List Ty, Paired ClsV (ts.map fun t => V.ty (tyS t)) (ts.map fun t => Value.type (tyS t))
  | [] => .nil
  | t :: ts => .cons (.ty _) (paired_ty ts)
theorem c_isiT (hb : BltOk C) {ts : List Ty} (g1 : Gl C "isinstance") {l : List Expr} {k : Nat} {p3 : Pos} (hx : PE C x (cX C Er W f)) (ns : noStar x = true) (hl : ts.length ≤ 1000)
    (ht : PA C l (fun _ H Q => Q (ts.map fun t => .ty (tyS t)) H)) :
    PE C (.Call (.Name "isinstance" p) [x, .Tuple l k p3] [] pos) (cX C Er W fun e => (f e).bind fun v => .ok (.val (.bl (ts.any (v.d.isTy ·))))) :=
  pe_case fun σ H Q ⟨O, e, R, hp⟩ => ⟨_, pe_callB call_isiT g1 (hb.no _ (by decide)) rfl (pa_cons hx (pa_cons (pe_tup ht) pa_nil) (star_cons ns _ _)) (by decide) (by decide) (star_cons ns _ _) rfl,
    tX_bind wants_X (.refl H) R hp fun r v H1 _ s1 a1 R1 p1 => ⟨by rw [List.length_map]; exact small_line hl, fun q nq =>
      ⟨v, q, _, .type (tyNm r.d), _, ts.any (r.d.isTy ·), rfl, upd_same, paired_ty ts, any_ty ((ResOk.any a1).same (same_new nq _)), kit_ds _ _ _, p1 _ _ (s1.trans (same_new nq _)) res_bl⟩⟩⟩

/-! ### methods -/
theorem join_fits (a : Str) : ∀ ys : List Str, (ys.map (·.length)).sum + ys.length * a.length = joinLen a ys
  | [] => by simp [joinLen]
  | y :: r => by
    have h := join_fits a r
    unfold joinLen at h ⊢
    simp only [List.map_cons, List.sum_cons, List.length_cons, Nat.succ_mul]
    omega
theorem c_join {ap : Pos} (hx : PE C x (cX C Er W f)) (hy : PE C y (cX C Er W g)) (nc : noCall0 x = true) (ns : noStar y = true) (hl : apLine ap pos = true) :
    PE C (.Call (.Attribute x "join" ap) [y] [] pos) (cX C Er W fun e => (f e).bind fun v => if mthOk .join v.d = true then ((g e).bind fun v => (Rs.ok []).bind fun vs => .ok (v :: vs)).bind fun rs => (asVals (mthArg .join rs)).bind fun _ => mthop .join v.d (rs.map RV.d) else .stuck) :=
  pe_case fun σ H Q ⟨O, e, R, hp⟩ => ⟨_, pe_join hx hy (star_cons ns _ _) (attr_plain nc _ _ _) hl, tX_bind wants_X (.refl H) R hp fun r v H1 _ s1 a1 R1 p1 => by
    have b1 := ResOk.any a1
    generalize r.d = d at p1 b1
    cases d <;> first
      | exact False.elim (show False from p1)
      | skip
    rename_i a
    cases any_str b1
    refine ⟨⟨a, rfl⟩, ?_⟩
    have p1 : PostX C.K C.mg W O σ H Q (((g e).bind fun v => (Rs.ok []).bind fun vs => .ok (v :: vs)).bind fun rs => (asVals (mthArg .join rs)).bind fun _ => mthop .join (.str a) (rs.map RV.d)) := p1
    rw [Rs.assoc] at p1
    refine tX_bind wants_X s1 R1 p1 fun r2 w H2 _ s2 a2 R2 p2 => ?_
    have b2 := ResOk.any a2
    have p2 : PostX C.K C.mg W O σ H Q (mthop .join (.str a) [r2.d]) := p2
    generalize r2.d = d2 at p2 b2
    cases d2 <;> first
      | exact False.elim (show False from p2)
      | skip
    rename_i ds
    obtain ⟨b, vs, e1, q1, l1⟩ := b2
    have p2 : PostX C.K C.mg W O σ H Q ((strsOf ds).bind fun ys => if joinLen a ys ≤ lim ∧ ys.length ≤ lim then .ok (.val (.str (Str.join a ys))) else .stuck) := p2
    cases q : strsOf ds with
    | stuck => rw [q] at p2; exact False.elim (show False from p2)
    | exc c =>
      exfalso
      have n : ∀ {l : List D} {c : Str}, strsOf l ≠ .exc c := fun {l} => by
        induction l with
        | nil => intro c z; cases z
        | cons d r ih =>
          intro c z
          cases d <;> first
            | (cases z; done)
            | skip
          have z : (strsOf r).bind (fun l => Rs.ok (_ :: l)) = .exc c := z
          cases q : strsOf r with
          | ok l => rw [q] at z; cases z
          | stuck => rw [q] at z; cases z
          | exc c' => exact ih q
      exact n q
    | ok ys =>
      rw [q] at p2
      have p2 : PostX C.K C.mg W O σ H Q (if joinLen a ys ≤ lim ∧ ys.length ≤ lim then .ok (.val (.str (Str.join a ys))) else .stuck) := p2
      by_cases hk : joinLen a ys ≤ lim ∧ ys.length ≤ lim
      · rw [if_pos hk] at p2
        obtain ⟨g1, g2⟩ := strs_at l1 q
        rw [g1] at q1
        refine ⟨a, b, ys, rfl, by rw [e1], .inl q1, by rw [join_fits]; exact hk.1, ?_⟩
        rw [TL.join_eq]
        exact p2 _ H2 (s1.trans s2) res_str
      · rw [if_neg hk] at p2; exact False.elim (show False from p2)⟩
theorem m1_ok {nm : Str} {ap : Pos} (nc : noCall0 x = true) (ns : noStar y = true) (hl : apLine ap pos = true) : M1 C x nm ap y pos := by
  have e := star_cons ns [] C.env
  refine ⟨attr_plain nc _ _ _, ?_, hl, ?_⟩
  · rw [e]; rfl
  · rw [e]; rfl
theorem m2_ok {nm : Str} {ap : Pos} (nc : noCall0 x = true) (ns : noStar y = true) (ns2 : noStar z = true) (hl : apLine ap pos = true) : M2 C x nm ap y z pos := by
  have e := star_cons ns [z] C.env
  rw [star_cons ns2 [] C.env] at e
  refine ⟨attr_plain nc _ _ _, ?_, hl, ?_⟩
  · rw [e]; rfl
  · rw [e]; rfl
theorem is_d {K : PySem.W.Frag} {O : Addr → Prop} {H : Hp} {a : Addr} {kvs : List (Key × V)} (r : Rd H a (.dK kvs)) : IsD H a := .inl ⟨kvs, r⟩
theorem c_get1 (hu : C.A.units + 190 < cLine) {ap : Pos} (hx : PE C x (cX C Er W f)) (hy : PE C y (cX C Er W g)) (nc : noCall0 x = true) (ns : noStar y = true) (hl : apLine ap pos = true) :
    PE C (.Call (.Attribute x "get" ap) [y] [] pos) (cX C Er W fun e => (f e).bind fun v => if mthOk .get1 v.d = true then ((g e).bind fun v => (Rs.ok []).bind fun vs => .ok (v :: vs)).bind fun rs => (asVals (mthArg .get1 rs)).bind fun _ => mthop .get1 v.d (rs.map RV.d) else .stuck) :=
  pe_case fun σ H Q ⟨O, e, R, hp⟩ => ⟨_, pe_dget1 (by omega) hx hy (m1_ok nc ns hl), tX_bind wants_X (.refl H) R hp fun r v H1 _ s1 a1 R1 p1 => by
    have b1 := ResOk.any a1
    generalize r.d = d at p1 b1
    cases d <;> first
      | exact False.elim (show False from p1)
      | skip
    rename_i ks
    obtain ⟨a, kvs, e1, r1, l1⟩ := b1
    refine ⟨a, e1, .inl ⟨kvs, r1⟩, ?_⟩
    have p1 : PostX C.K C.mg W O σ H Q (((g e).bind fun v => (Rs.ok []).bind fun vs => .ok (v :: vs)).bind fun rs => (asVals (mthArg .get1 rs)).bind fun _ => mthop .get1 (.dct ks) (rs.map RV.d)) := p1
    rw [Rs.assoc] at p1
    refine tX_bind wants_X s1 R1 p1 fun r2 w H2 _ s2 a2 R2 p2 => ?_
    have p2 : PostX C.K C.mg W O σ H Q ((asVals [r2]).bind fun _ => mthop .get1 (.dct ks) [r2.d]) := p2
    rcases asVals_cases [r2] with ⟨ds, q⟩ | q
    · rw [q, bind_ok] at p2
      have b2 := ResOk.any a2
      generalize r2.d = d2 at p2 b2
      cases d2 <;> first
        | exact False.elim (show False from p2)
        | skip
      rename_i k
      cases any_str b2
      have p2 : PostX C.K C.mg W O σ H Q (.ok (.val ((look ks k).getD .non))) := p2
      refine ⟨_, .inl ⟨kvs, .inr k, rd_same s2 r1, rfl, rfl⟩, p2 _ H2 (s1.trans s2) ?_⟩
      show At O H2 _ _
      rcases AtD.look k (AtD.tr (.same s2) _ _ l1) with ⟨e2, e3⟩ | ⟨d, w, e2, e3, aw⟩
      · rw [e2, e3]; exact at_non
      · rw [e2, e3]; exact aw
    · rw [q] at p2; exact False.elim (show False from p2)⟩
theorem c_get2 (hu : C.A.units + 190 < cLine) {ap : Pos} (hx : PE C x (cX C Er W f)) (hy : PE C y (cX C Er W g)) (hz : PE C z (cX C Er W h)) (nc : noCall0 x = true) (ns : noStar y = true) (ns2 : noStar z = true) (hl : apLine ap pos = true) :
    PE C (.Call (.Attribute x "get" ap) [y, z] [] pos) (cX C Er W fun e => (f e).bind fun v => if mthOk .get2 v.d = true then
      ((g e).bind fun v => ((h e).bind fun v => (Rs.ok []).bind fun vs => .ok (v :: vs)).bind fun vs => .ok (v :: vs)).bind fun rs => (asVals (mthArg .get2 rs)).bind fun _ => mthop .get2 v.d (rs.map RV.d) else .stuck) :=
  pe_case fun σ H Q ⟨O, e, R, hp⟩ => ⟨_, pe_dget2 (by omega) hx hy hz (m2_ok nc ns ns2 hl), tX_bind wants_X (.refl H) R hp fun r v H1 _ s1 a1 R1 p1 => by
    have b1 := ResOk.any a1
    generalize r.d = d at p1 b1
    cases d <;> first
      | exact False.elim (show False from p1)
      | skip
    rename_i ks
    obtain ⟨a, kvs, e1, r1, l1⟩ := b1
    refine ⟨a, e1, .inl ⟨kvs, r1⟩, ?_⟩
    have p1 : PostX C.K C.mg W O σ H Q (((g e).bind fun v => ((h e).bind fun v => (Rs.ok []).bind fun vs => .ok (v :: vs)).bind fun vs => .ok (v :: vs)).bind fun rs => (asVals (mthArg .get2 rs)).bind fun _ => mthop .get2 (.dct ks) (rs.map RV.d)) := p1
    rw [Rs.assoc] at p1
    refine tX_bind wants_X s1 R1 p1 fun r2 w H2 _ s2 a2 R2 p2 => ?_
    rw [Rs.assoc, Rs.assoc] at p2
    refine tX_bind wants_X (s1.trans s2) R2 p2 fun r3 w3 H3 _ s3 a3 R3 p3 => ?_
    have p3 : PostX C.K C.mg W O σ H Q ((asVals [r2, r3]).bind fun _ => mthop .get2 (.dct ks) [r2.d, r3.d]) := p3
    have l3 : ResL C.K O H2 H3 [r3] [w3] := ⟨w3, [], rfl, a3, rfl⟩
    have l2 : ResL C.K O H1 H3 [r2, r3] [w, w3] := ⟨w, [w3], rfl, a2.same s3, ResL.from s2 l3⟩
    rcases asVals_cases [r2, r3] with ⟨ds, q⟩ | q
    · have al := asVals_at R1.od l2 q
      rw [q, bind_ok] at p3
      obtain ⟨d3, e3, q3⟩ := bind_ok_eq (show (asVal r2).bind (fun d => (asVals [r3]).bind fun ds => Rs.ok (d :: ds)) = .ok ds from q)
      obtain ⟨d4, e4, q4⟩ := bind_ok_eq q3
      obtain ⟨d5, e5, q5⟩ := bind_ok_eq (show (asVal r3).bind (fun d => (asVals []).bind fun ds => Rs.ok (d :: ds)) = .ok d4 from e4)
      have a6 : At O H3 d5 w3 := a3.val R2.od e5
      have e6 : r3.d = d5 := by cases r3 <;> cases e5 <;> rfl
      have b2 := (ResOk.any a2).same s3
      generalize r2.d = d2 at p3 b2
      cases d2 <;> first
        | exact False.elim (show False from p3)
        | skip
      rename_i k
      cases any_str b2
      have p3 : PostX C.K C.mg W O σ H Q (.ok (.val ((look ks k).getD r3.d))) := p3
      refine ⟨_, .inl ⟨kvs, .inr k, rd_same (s2.trans s3) r1, rfl, rfl⟩, p3 _ H3 ((s1.trans s2).trans s3) ?_⟩
      show At O H3 _ _
      rcases AtD.look k (AtD.tr (.same (s2.trans s3)) _ _ l1) with ⟨e2, e3⟩ | ⟨d, w, e2, e3, aw⟩
      · rw [e2, e3, e6]; exact a6
      · rw [e2, e3]; exact aw
    · rw [q] at p3; exact False.elim (show False from p3)⟩
end

/-! ### dict displays -/
def kvF : List ((En → Rs RV) × (En → Rs RV)) → En → Rs (List RV)
  | [], _ => .ok []
  | (fk, fv) :: r, e => (fk e).bind fun k => ((fv e).bind fun v => (kvF r e).bind fun vs => .ok (v :: vs)).bind fun vs => .ok (k :: vs)
def flatP : List (V × V) → List V
  | [] => []
  | (k, v) :: r => k :: v :: flatP r
section
variable {C : Cx} {Er : Addr → Str → Prop} {W : WX} {O : Addr → Prop} {e : En} {σ : L2.St}
theorem t_pairs {B : Type} {P : Rs B → Prop} {H0 : Hp} (w : Wants W C.mg σ H0 P) : ∀ (fs : List ((En → Rs RV) × (En → Rs RV))) {H : Hp} (s0 : Same H0 H) {g : List RV → Rs B} {Kt : List (V × V) → Hp → Prop} (R : ERel C.K Er O e σ H) (hp : P ((kvF fs e).bind g))
    (k : ∀ rs ps H1, kvF fs e = .ok rs → Same H H1 → ResL C.K O H H1 rs (flatP ps) → ERel C.K Er O e σ H1 → P (g rs) → Kt ps H1), tPairs (fs.map fun f => (cX C Er W f.1, cX C Er W f.2)) σ H Kt
  | [], H, s0, g, Kt, R, hp, k => k [] [] H rfl (.refl H) rfl R hp
  | (fk, fv) :: r, H, s0, g, Kt, R, hp, k => by
    have hp : P (((fk e).bind fun k => ((fv e).bind fun v => (kvF r e).bind fun vs => .ok (v :: vs)).bind fun vs => .ok (k :: vs)).bind g) := hp
    rw [Rs.assoc] at hp
    refine tX_bind w s0 R hp fun r1 v1 H1 q1 s1 a1 R1 p1 => ?_
    rw [Rs.assoc, Rs.assoc] at p1
    refine tX_bind w (s0.trans s1) R1 p1 fun r2 v2 H2 q2 s2 a2 R2 p2 => ?_
    rw [Rs.assoc] at p2
    refine t_pairs w r ((s0.trans s1).trans s2) R2 p2 fun rs ps H3 q3 s3 l3 R3 p3 => ?_
    exact k (r1 :: r2 :: rs) ((v1, v2) :: ps) H3 (by unfold kvF; rw [show fk e = Rs.ok r1 from q1, bind_ok, show fv e = Rs.ok r2 from q2, bind_ok, q3]; rfl) ((s1.trans s2).trans s3) ⟨v1, _, rfl, a1.same (s2.trans s3), v2, _, rfl, ResOk.from s1 (a2.same s3), ResL.from (s1.trans s2) l3⟩ R3 p3
theorem pair_up : ∀ {ps : List (V × V)} {ds : List D} {l : List (Str × D)} {H : Hp}, AtL O H ds (flatP ps) → pairUp ds = .ok l → ∃ kvs : List (Key × V), ps = kvs.map (fun kv => (kV kv.1, kv.2)) ∧ AtD O H l kvs ∧ ps.length = l.length
  | [], ds, l, H, h, q => by
    cases ds with
    | nil => cases q; exact ⟨[], rfl, .nil, rfl⟩
    | cons d r => unfold AtL at h; obtain ⟨v, r, e, _⟩ := h; cases e
  | (a, b) :: ps, ds, l, H, h, q => by
    have h : AtL O H ds (a :: b :: flatP ps) := h
    cases ds with
    | nil => unfold AtL at h; cases h
    | cons d1 r =>
      unfold AtL at h
      obtain ⟨v, r', e, a1, h2⟩ := h
      cases e
      cases r with
      | nil => unfold AtL at h2; cases h2
      | cons d2 r =>
        unfold AtL at h2
        obtain ⟨v, r', e, a2, h3⟩ := h2
        cases e
        cases d1 <;> first
          | exact (stuck_no q).elim
          | skip
        rename_i k
        obtain ⟨l', q1, q2⟩ := bind_ok_eq (show (pairUp r).bind (fun l => Rs.ok ((k, d2) :: l)) = .ok l from q)
        cases q2
        obtain ⟨kvs, e1, e2, e3⟩ := pair_up h3 q1
        unfold At at a1
        subst a1
        exact ⟨(.inr k, b) :: kvs, by rw [e1]; rfl, .cons a2 e2, by rw [List.length_cons, List.length_cons, e3]⟩
end
section
variable {C : Cx} {Er : Addr → Str → Prop} {W : WX} {pos : Pos}
theorem c_dct {ks : List (Option Expr)} {vs : List Expr} {fs : List ((En → Rs RV) × (En → Rs RV))} (h : PPs C pos ks vs (fs.map fun f => (cX C Er W f.1, cX C Er W f.2))) (hall : ks.all (·.isSome) = true) (hl : ks.length = vs.length) (h15 : ks.length ≤ 15) (hf : fs.length = ks.length) :
    PE C (.Dict ks vs pos) (cX C Er W fun e => (kvF fs e).bind fun rs => (asVals rs).bind fun ds => (pairUp ds).bind fun l => .ok (.own (.dct (merge [] l)))) := by
  cases ks with
  | nil =>
    cases vs with
    | cons v r => cases hl
    | nil =>
      cases fs with
      | cons f r => cases hf
      | nil =>
        refine pe_case fun σ H Q ⟨O, e, R, hp⟩ => ⟨_, pe_dnewK, fun p np => ?_⟩
        exact hp _ _ (same_new np _) (own_dct np (.refl H) .nil)
  | cons k0 kr =>
    refine pe_case fun σ H Q ⟨O, e, R, hp⟩ => ⟨_, pe_disp h hall hl (fun z => by cases z) h15, fun p np => ?_⟩
    have s0 := same_new np (.dK [])
    refine t_pairs wants_X fs s0 (R.apart np _) hp fun rs ps H2 q2 s2 l2 R2 p2 => ?_
    have e2 : H2 p = some (.dK []) := s2 _ _ upd_same
    refine ⟨e2, ?_⟩
    rcases asVals_cases rs with ⟨ds, q⟩ | q
    · rw [q, bind_ok] at p2
      rcases pairUp_cases ds.length ds (Nat.le_refl _) with ⟨l, q3⟩ | q3
      · rw [q3, bind_ok] at p2
        have al := asVals_at (fun b hb => (R.apart np (.dK [])).od b hb) l2 q
        obtain ⟨kvs, e3, e4, e5⟩ := pair_up al q3
        have e6 : ps.length = kvs.length := by rw [e3, List.length_map]
        refine ⟨kvs, e3, ?_, ?_⟩
        · have e7 : (flatP ps).length = rs.length := l2.length
          have e8 : ∀ ps : List (V × V), (flatP ps).length = 2 * ps.length := fun ps => by
            induction ps with
            | nil => rfl
            | cons a r ih => show (flatP r).length + 1 + 1 = _; rw [ih, List.length_cons]; omega
          have e9 : ∀ (fs : List ((En → Rs RV) × (En → Rs RV))) (e : En) (rs : List RV), kvF fs e = .ok rs → rs.length = 2 * fs.length := by
            intro fs
            induction fs with
            | nil => intro e rs z; cases z; rfl
            | cons f r ih =>
              intro e rs z
              obtain ⟨v1, z1, z2⟩ := bind_ok_eq (show (f.1 e).bind (fun k => ((f.2 e).bind fun v => (kvF r e).bind fun vs => Rs.ok (v :: vs)).bind fun vs => .ok (k :: vs)) = .ok rs from z)
              obtain ⟨v2, z3, z4⟩ := bind_ok_eq z2
              obtain ⟨v3, z5, z6⟩ := bind_ok_eq z3
              obtain ⟨v4, z7, z8⟩ := bind_ok_eq z6
              cases z8
              cases z4
              rw [List.length_cons, List.length_cons, ih e v4 z7, List.length_cons]
              omega
          have e10 := e9 fs e rs q2
          have e11 := e8 ps
          have e12 : (k0 :: kr).length ≤ 15 := h15
          omega
        · have s3 : Same H (upd H2 p (.dK (mergeK [] kvs))) := fun b o hb => by
            rw [upd_ne (ne_of_none hb np)]
            exact s2 _ _ (s0 _ _ hb)
          refine p2 _ _ s3 ⟨p, rfl, np, mergeK [] kvs, upd_same, ?_⟩
          refine AtD.tr (fun a u _ na r => ⟨na, ?_⟩) _ _ (AtD.merge e4 .nil)
          have ne : a ≠ p := fun z => na (.inr z)
          rcases r with r | ⟨o, r⟩
          · exact .inl (by rw [upd_ne ne]; exact r)
          · exact .inr ⟨o, by rw [upd_ne ne]; exact r⟩
      · rw [q3] at p2; exact False.elim (show False from p2)
    · rw [q] at p2; exact False.elim (show False from p2)
end
end Ev
set_option Elab.async false
set_option linter.all false
set_option maxRecDepth 100000
set_option maxHeartbeats 4000000
set_option autoImplicit false
/-! What is walked. -/
namespace Ev
open PySem PySem.Spec PyProof.Rows L2

structure Walk (K : PySem.W.Frag) (J : L2.It) (its : List D) (ds : List D) (vs : List V) (Kp : List Addr) (Keep : Hp → Prop) : Prop where
  keep : ∀ H H', Keep H → (∀ b, b ∈ Kp → ∀ o, H b = some o → H' b = some o) → Keep H'
  go : ∀ i H, Keep H → i < its.length → J.go i H
  yld : ∀ i H x H' O, Keep H → AtL O H ds vs → (∀ b, O b → H b ≠ none) → i < its.length → J.yld i H x H' → Same H H' ∧ ∃ d, its[i]? = some d ∧ At O H' d x
  stop : ∀ i H, Keep H → its.length ≤ i → J.stop i H
section
variable {K : PySem.W.Frag}
theorem sq_keep {H H' : Hp} {a : Addr} {vs : List V} (h : SqL K H a vs) (k : ∀ o, H a = some o → H' a = some o) : SqL K H' a vs := by
  rcases h with (h | ⟨o, h⟩) | h
  · exact .inl (.inl (k _ h))
  · exact .inl (.inr ⟨o, k _ h⟩)
  · exact .inr h
theorem get_some {A : Type} {l : List A} {i : Nat} (h : i < l.length) : ∃ x, l[i]? = some x := ⟨l[i], List.getElem?_eq_getElem h⟩
theorem walk_list {a : Addr} {ds : List D} {vs : List V} (hl : ds.length = vs.length) : Walk K (Itl K a) ds ds vs [a] (fun H => SqL K H a vs) := by
  refine ⟨fun H H' h k => sq_keep h (k a (by simp)), fun i H h hi => ?_, fun i H x H' O h l _ hi y => ?_, fun i H h hi => ⟨vs, h, by omega⟩⟩
  · obtain ⟨x, hx⟩ := get_some (l := vs) (i := i) (by omega)
    exact ⟨vs, x, h, hx⟩
  · obtain ⟨e1, e2⟩ := y
    subst e1
    obtain ⟨d, hd⟩ := get_some hi
    obtain ⟨v, hv, av⟩ := l.get hd
    have e3 := e2 vs h
    rw [hv] at e3
    cases e3
    exact ⟨.refl _, d, hd, av⟩
theorem walk_keys {d : Addr} {o : Obj} {ks : List (Str × D)} {kvs : List (Key × V)} (hk : kvs.map (·.1) = ks.map fun kv => (Sum.inr kv.1 : Key)) :
    Walk K (Itk d o kvs) (ks.map fun kv => .str kv.1) [] [] [d] (fun H => H d = some (.frz o (.dK kvs))) := by
  have hl : ks.length = kvs.length := by simpa using (congrArg List.length hk).symm
  refine ⟨fun H H' h k => k d (by simp) _ h, fun i H h hi => ⟨h, by rw [List.length_map] at hi; omega⟩, fun i H x H' O h l _ hi y => ?_, fun i H h hi => ⟨h, by rw [List.length_map] at hi; omega⟩⟩
  obtain ⟨e1, k, v, e2, e3⟩ := y
  subst e1
  rw [List.length_map] at hi
  obtain ⟨p, hp⟩ := get_some hi
  have e4 : (kvs.map (·.1))[i]? = some k := by rw [List.getElem?_map, e2]; rfl
  rw [hk, List.getElem?_map, hp] at e4
  have e5 : (Sum.inr p.1 : Key) = k := Option.some.inj e4
  refine ⟨.refl _, .str p.1, by rw [List.getElem?_map, hp]; rfl, ?_⟩
  unfold At
  rw [e3, ← e5]
  rfl
theorem walk_range {n : Nat} : Walk K (Itr 0 n) ((List.range n).map fun (i : Nat) => D.int i) [] [] [] (fun _ => True) := by
  refine ⟨fun _ _ h _ => h, fun i H h hi => ?_, fun i H x H' O h l _ hi y => ?_, fun i H h hi => ?_⟩
  · rw [List.length_map, List.length_range] at hi
    exact hi
  · obtain ⟨e1, e2⟩ := y
    subst e1 e2
    rw [List.length_map, List.length_range] at hi
    refine ⟨.refl _, .int i, by rw [List.getElem?_map, List.getElem?_range hi]; rfl, ?_⟩
    unfold At
    rw [Int.zero_add]
  · rw [List.length_map, List.length_range] at hi
    exact hi
theorem enum_len : ∀ (ds : List D) (n : Nat), (enumFrom n ds).length = ds.length
  | [], _ => rfl
  | _ :: r, n => by unfold enumFrom; rw [List.length_cons, List.length_cons, enum_len r]
theorem enum_get : ∀ (ds : List D) (n i : Nat) (d : D), ds[i]? = some d → (enumFrom n ds)[i]? = some (.tup [.int ((n + i : Nat) : Int), d])
  | [], _, _, _, h => by simp at h
  | e :: r, n, 0, d, h => by
    simp only [List.getElem?_cons_zero, Option.some.injEq] at h
    subst h
    unfold enumFrom
    rfl
  | e :: r, n, i + 1, d, h => by
    simp only [List.getElem?_cons_succ] at h
    unfold enumFrom
    rw [List.getElem?_cons_succ, enum_get r (n + 1) i d h]
    have e1 : n + 1 + i = n + (i + 1) := by omega
    rw [e1]
theorem at_pair {O : Addr → Prop} {H : Hp} {T : Addr} {d e : D} {x y : V} (hO : ∀ b, O b → H b ≠ none) (hT : H T = none) (ad : At O H d x) (ae : At O H e y) : At O (upd H T (.tup [x, y])) (.tup [d, e]) (.ref T) := by
  have t : Tr O O H (upd H T (.tup [x, y])) := .same (same_new hT _)
  unfold At
  exact ⟨T, _, rfl, fun z => hO T z hT, .of upd_same, .cons (At.tr t _ _ ad) (.cons (At.tr t _ _ ae) .nil)⟩
theorem walk_enum {a : Addr} {ds : List D} {vs : List V} (hl : ds.length = vs.length) : Walk K (Ite K a) (enumFrom 0 ds) ds vs [a] (fun H => SqL K H a vs) := by
  have el := enum_len ds 0
  refine ⟨fun H H' h k => sq_keep h (k a (by simp)), fun i H h hi => ?_, fun i H x H' O h l hO hi y => ?_, fun i H h hi => ⟨vs, h, by omega⟩⟩
  · obtain ⟨x, hx⟩ := get_some (l := vs) (i := i) (by omega)
    exact ⟨vs, x, h, hx⟩
  · obtain ⟨T, x0, e1, hT, e2, e3⟩ := y
    subst e1 e2
    obtain ⟨d, hd⟩ := get_some (l := ds) (i := i) (by omega)
    obtain ⟨v, hv, av⟩ := l.get hd
    have e4 := e3 vs h
    rw [hv] at e4
    cases e4
    refine ⟨same_new hT _, _, enum_get ds 0 i d hd, ?_⟩
    rw [Nat.zero_add]
    exact at_pair hO hT at_int av
theorem atL_split {O : Addr → Prop} {H : Hp} : ∀ {ds es : List D} {vs us : List V}, ds.length = vs.length → AtL O H (ds ++ es) (vs ++ us) → AtL O H ds vs ∧ AtL O H es us
  | [], _, [], _, _, h => ⟨.nil, h⟩
  | [], _, _ :: _, _, h, _ => by cases h
  | _ :: _, _, [], _, h, _ => by cases h
  | d :: ds, es, v :: vs, us, h, q => by
    have q : AtL O H (d :: (ds ++ es)) (v :: (vs ++ us)) := q
    unfold AtL at q
    obtain ⟨w, r, e, a, l⟩ := q
    cases e
    obtain ⟨h1, h2⟩ := atL_split (by simpa using h) l
    exact ⟨.cons a h1, h2⟩
theorem walk_zip {a b : Addr} {ds es : List D} {vs us : List V} (hl : ds.length = vs.length) (hl2 : es.length = us.length) (he : ds.length = es.length) :
    Walk K (Itz K a b) ((ds.zip es).map fun p => .tup [p.1, p.2]) (ds ++ es) (vs ++ us) [a, b] (fun H => SqL K H a vs ∧ SqL K H b us) := by
  have zl : ((ds.zip es).map fun p => D.tup [p.1, p.2]).length = ds.length := by rw [List.length_map, List.length_zip, he, Nat.min_self]
  refine ⟨fun H H' h k => ⟨sq_keep h.1 (k a (by simp)), sq_keep h.2 (k b (by simp))⟩, fun i H h hi => ?_, fun i H x H' O h l hO hi y => ?_, fun i H h hi => ⟨vs, us, h.1, h.2, .inl (by omega)⟩⟩
  · obtain ⟨x, hx⟩ := get_some (l := vs) (i := i) (by omega)
    obtain ⟨y, hy⟩ := get_some (l := us) (i := i) (by omega)
    exact ⟨vs, us, x, y, h.1, h.2, hx, hy⟩
  · obtain ⟨T, x0, y0, e1, hT, e2, e3, e4⟩ := y
    subst e1 e2
    obtain ⟨l1, l2⟩ := atL_split hl l
    obtain ⟨d, hd⟩ := get_some (l := ds) (i := i) (by omega)
    obtain ⟨e, hde⟩ := get_some (l := es) (i := i) (by omega)
    obtain ⟨v, hv, av⟩ := l1.get hd
    obtain ⟨u, hu, au⟩ := l2.get hde
    have e5 := e3 vs h.1
    have e6 := e4 us h.2
    rw [hv] at e5
    rw [hu] at e6
    cases e5
    cases e6
    refine ⟨same_new hT _, .tup [d, e], ?_, at_pair hO hT av au⟩
    rw [List.getElem?_map, show (ds.zip es)[i]? = some (d, e) from List.getElem?_zip_eq_some.mpr ⟨hd, hde⟩]
    rfl
theorem walk_rev {a : Addr} {ds : List D} {vs : List V} (hl : ds.length = vs.length) : Walk K (Itv K a vs.length) ds.reverse ds vs [a] (fun H => SqL K H a vs) := by
  refine ⟨fun H H' h k => sq_keep h (k a (by simp)), fun i H h hi => ?_, fun i H x H' O h l _ hi y => ?_, fun i H h hi => ?_⟩
  · rw [List.length_reverse] at hi
    obtain ⟨x, hx⟩ := get_some (l := vs) (i := vs.length - 1 - i) (by omega)
    exact ⟨by omega, vs, x, h, hx⟩
  · obtain ⟨e1, e2⟩ := y
    subst e1
    rw [List.length_reverse] at hi
    obtain ⟨d, hd⟩ := get_some (l := ds) (i := ds.length - 1 - i) (by omega)
    obtain ⟨v, hv, av⟩ := l.get hd
    have e3 := e2 vs h
    rw [← hl, hv] at e3
    cases e3
    exact ⟨.refl _, d, by rw [List.getElem?_reverse hi]; exact hd, av⟩
  · rw [List.length_reverse] at hi
    show vs.length ≤ i
    omega
end

/-! ### locks -/
/-- nothing, or the dict that is walked is locked -/
def Lk (C : Cx) (H1 HL : Hp) (Kp : List Addr) : Prop := HL = H1 ∨ ∃ (d : Addr) (o : Obj) (kvs : List (Key × V)), d ∈ Kp ∧ H1 d = some (.dK kvs) ∧ HL = upd H1 d (.frz o (.dK kvs)) ∧ ∀ o' u', C.H_0 d ≠ some (.frz o' u')
section
variable {C : Cx} {Er : Addr → Str → Prop} {W : WX} {O : Addr → Prop} {H1 HL : Hp} {Kp : List Addr}
theorem Lk.rd (k : Lk C H1 HL Kp) {a : Addr} {u : HO} (r : Rd H1 a u) : Rd HL a u := by
  rcases k with e | ⟨d, o, kvs, _, h, e, _⟩
  · rw [e]; exact r
  · subst e
    by_cases q : a = d
    · subst q
      rcases r with r | ⟨o', r⟩
      · rw [h] at r; cases r; exact .inr ⟨o, upd_same⟩
      · rw [h] at r; cases r
    · rcases r with r | ⟨o', r⟩
      · exact .inl (by rw [upd_ne q]; exact r)
      · exact .inr ⟨o', by rw [upd_ne q]; exact r⟩
theorem Lk.off (k : Lk C H1 HL Kp) {a : Addr} : HL a = none ↔ H1 a = none := by
  rcases k with e | ⟨d, o, kvs, _, h, e, _⟩
  · rw [e]
  · subst e
    by_cases q : a = d
    · subst q
      rw [upd_same, h]
      exact ⟨(fun z => by cases z), (fun z => by cases z)⟩
    · rw [upd_ne q]
theorem Lk.tr (k : Lk C H1 HL Kp) : Tr O O H1 HL := fun _ _ _ n r => ⟨n, k.rd r⟩
theorem Lk.erel (k : Lk C H1 HL Kp) {e : En} {σ : L2.St} (R : ERel C.K Er O e σ H1) : ERel C.K Er O e σ HL :=
  ⟨fun b h z => R.od b h (k.off.mp z), R.len, fun i x h => (R.slot i x h).tr k.tr fun _ _ _ r => k.rd r⟩
/-- one step back -/
def Ulk (C : Cx) (H H0 : Hp) : Prop := H0 = H ∨ ∃ (d : Addr) (o : Obj) (u : HO), H d = some (.frz o u) ∧ H0 = upd H d u ∧ ∀ o' u', C.H_0 d ≠ some (.frz o' u')
theorem Ulk.inv {H H0 : Hp} (k : Ulk C H H0) {pins : List (Addr × Obj)} {σ : L2.St} {s : Shared} (I : Inv C pins σ H s) : Inv C pins σ H0 s := by
  rcases k with e | ⟨d, o, u, h, e, n⟩
  · rw [e]; exact I
  · rw [e]; exact I.unlock h n
/-- the heap that was walked, unlocked -/
theorem Lk.back (k : Lk C H1 HL Kp) {H' : Hp} (kp : ∀ b, b ∈ Kp → ∀ o, HL b = some o → H' b = some o) (s : ∀ b o, b ∉ Kp → H1 b = some o → H' b = some o) :
    ∃ H0, Ulk C H' H0 ∧ Same H1 H0 ∧ (∀ a, H0 a = none ↔ H' a = none) ∧ (∀ (a : Addr) (u : HO), plainO u = true → Rd H' a u → Rd H0 a u) ∧ (∀ a, a ∉ Kp → H0 a = H' a) ∧ (∀ a o, H' a = some o → (∀ o' u', o ≠ .frz o' u') → H0 a = some o) := by
  rcases k with e | ⟨d, o, kvs, hd, h, e, n⟩
  · subst e
    refine ⟨H', .inl rfl, fun b o q => ?_, fun _ => Iff.rfl, fun _ _ _ r => r, fun _ _ => rfl, fun _ _ q _ => q⟩
    by_cases z : b ∈ Kp
    · exact kp b z o q
    · exact s b o z q
  · subst e
    have e1 : H' d = some (.frz o (.dK kvs)) := kp d hd _ upd_same
    refine ⟨upd H' d (.dK kvs), .inr ⟨d, o, _, e1, rfl, n⟩, fun b u q => ?_, fun a => ?_, fun a u p r => ?_, fun a na => ?_, fun a w q nf => ?_⟩
    · by_cases z : b = d
      · subst z
        rw [upd_same, ← q, h]
      · rw [upd_ne z]
        by_cases z2 : b ∈ Kp
        · exact kp b z2 u (by rw [upd_ne z]; exact q)
        · exact s b u z2 q
    · by_cases z : a = d
      · subst z
        rw [upd_same, e1]
        exact ⟨(fun z => by cases z), (fun z => by cases z)⟩
      · rw [upd_ne z]
    · by_cases z : a = d
      · subst z
        rcases r with r | ⟨o', r⟩
        · rw [e1] at r; cases r; cases p
        · rw [e1] at r; cases r; exact .inl upd_same
      · rcases r with r | ⟨o', r⟩
        · exact .inl (by rw [upd_ne z]; exact r)
        · exact .inr ⟨o', by rw [upd_ne z]; exact r⟩
    · rw [upd_ne (fun z => na (by rw [z]; exact hd))]
    · rw [upd_ne (fun z => by rw [z, e1] at q; cases q; exact nf _ _ rfl)]
      exact q
end
/-- the dict that has come is locked -/
def tLk (C : Cx) (t : TE) : TE := fun σ H Q => t σ H fun v H1 => ∃ (d : Addr) (kvs : List (Key × V)), v = .ref d ∧
  ((H1 d = some (.dK kvs) ∧ ∀ o, (∀ o' u', C.H_0 d ≠ some (.frz o' u')) → Q v (upd H1 d (.frz o (.dK kvs)))) ∨ ∃ o, H1 d = some (.frz o (.dK kvs)) ∧ Q v H1)
theorem pe_lk {C : Cx} {x : Expr} {t : TE} (h : PE C x t) : PE C x (tLk C t) := by
  refine ⟨fun pins s σ H Q I q => thn (h.run pins s σ H _ I q) fun u s1 ⟨v, H1, I1, r1, d, kvs, e, q1⟩ => ?_⟩
  rcases q1 with ⟨hd, q1⟩ | ⟨o, hd, q1⟩
  · obtain ⟨od, I2⟩ := I1.lock hd True.intro
    exact ⟨v, _, I2, r1, q1 od (I1.nofrz hd True.intro)⟩
  · exact ⟨v, H1, I1, r1, q1⟩
/-- an end that may be unlocked -/
theorem pe_ul {C : Cx} {x : Expr} {t : TE} (h : PE C x t) : PE C x (fun σ H Q => t σ H fun v H1 => ∃ H0, Ulk C H1 H0 ∧ Q v H0) :=
  ⟨fun pins s σ H Q I q => thn (h.run pins s σ H _ I q) fun u s1 ⟨v, H1, I1, r1, H0, k, q1⟩ => ⟨v, H0, k.inv I1, r1, q1⟩⟩
theorem pi_case {C : Cx} {g x : Expr} {t' : TI} (h : ∀ σ H Q, t' σ H Q → ∃ t, PI C g x t ∧ t σ H Q) : PI C g x t' :=
  ⟨fun pins s σ H Q I q => let ⟨_, p, q'⟩ := h σ H Q q; p.run pins s σ H Q I q'⟩

/-! ### iterables -/
def PostI (C : Cx) (W : WX) (O : Addr → Prop) (σ : L2.St) (H : Hp) (vars : Nat → Prop) (R : L2.It → Hp → Prop) : Rs (List D) → Prop
  | .ok its => ∀ (J : L2.It) (ds : List D) (vs : List V) (Kp : List Addr) (Keep : Hp → Prop) (H1 HL : Hp), Same H H1 → Lk C H1 HL Kp → Walk C.K J its ds vs Kp Keep → Keep HL → AtL O H1 ds vs →
      (∀ b, b ∈ Kp → ¬ O b ∨ H b = none ∨ ∃ i, vars i ∧ σ[i]? = some (some (.ref b))) → its.length ≤ lim → R J HL
  | .exc c => Lets C.mg W σ H c
  | .stuck => False
def cI (C : Cx) (Er : Addr → Str → Prop) (W : WX) (vars : Nat → Prop) (f : En → Rs (List D)) : TI := fun σ H R => ∃ O e, ERel C.K Er O e σ H ∧ PostI C W O σ H vars R (f e)
theorem wants_I {C : Cx} {W : WX} {O : Addr → Prop} {σ : L2.St} {H : Hp} {vars : Nat → Prop} {R : L2.It → Hp → Prop} : Wants W C.mg σ H (PostI C W O σ H vars R) := ⟨fun h => h, fun h => h⟩
/-- where what is walked may stand -/
def spot (O : Addr → Prop) (σ : L2.St) (H : Hp) (vars : Nat → Prop) (v : V) : Prop := ∀ b, v = .ref b → ¬ O b ∨ H b = none ∨ ∃ i, vars i ∧ σ[i]? = some (some (.ref b))
def isV : X → Nat → Prop
  | .var i, j => i = j
  | _, _ => False
def itVars : It → Nat → Prop
  | .ex a => isV a
  | .range _ => fun _ => False
  | .enum a => isV a
  | .zip a b => fun i => isV a i ∨ isV b i
  | .rev a => isV a
def tWk (C : Cx) (Er : Addr → Str → Prop) (W : WX) (vars : Nat → Prop) (f : En → Rs RV) : TE := fun σ H Q => ∃ O e, ERel C.K Er O e σ H ∧ PostX C.K C.mg W O σ H (fun v H' => spot O σ H vars v → Q v H') (f e)
section
variable {C : Cx} {Er : Addr → Str → Prop} {W : WX} {f g : En → Rs RV} {x y tg : Expr} {pos p : Pos}
theorem asVal_ok {r : RV} {d : D} (h : asVal r = .ok d) : r.d = d := by
  cases r <;> cases h <;> rfl
/-- what is walked: a name's, or data -/
theorem c_wk_var {i : Nat} {n : Str} (hN : C.N[i]? = some n) (hv : Vis C.env.scope n) (hd : (n == ("__debug__" : Str)) = false) (hcd : (n == ("__classdict__" : Str)) = false) :
    PE C (.Name n pos) (tWk C Er W (isV (.var i)) fun e => (match e[i]? with
      | some (.val d) => Rs.ok (.val d)
      | some (.own d) => .ok (.bor d)
      | some (.lent d) => .ok (.bor d)
      | some (.bor d) => .ok (.bor d)
      | _ => .stuck : Rs RV).bind (itR (.var i))) :=
  pe_case fun σ H Q ⟨O, e, R, hp⟩ => by
    refine ⟨_, pe_var hN hv hd hcd, ?_⟩
    dsimp only at hp
    generalize hz : (match e[i]? with
      | some (.val d) => Rs.ok (.val d)
      | some (.own d) => Rs.ok (.bor d)
      | some (.lent d) => Rs.ok (.bor d)
      | some (.bor d) => Rs.ok (.bor d)
      | _ => Rs.stuck : Rs RV) = z at hp
    cases z with
    | stuck => exact False.elim (show False from hp)
    | exc c => split at hz <;> exact nomatch hz
    | ok r =>
      obtain ⟨v, e1, a⟩ := R.var hz
      exact ⟨v, e1, hp v H (.refl H) a fun b eb => .inr (.inr ⟨i, rfl, by rw [← eb]; exact e1⟩)⟩
theorem c_wk_data (hx : PE C x (cX C Er W f)) : PE C x (tWk C Er W (fun _ => False) fun e => (f e).bind fun r => (asVal r).bind fun _ => .ok r) :=
  pe_case fun σ H Q ⟨O, e, R, hp⟩ => ⟨_, hx, tX_bind wants_X (.refl H) R hp fun r v H1 _ s1 a1 R1 p1 => by
    rcases asVal_cases r with ⟨d, q⟩ | q
    · rw [q] at p1
      refine p1 v H1 s1 a1 fun b eb => ?_
      cases r with
      | val d =>
        subst eb
        refine .inl ?_
        have a1 : At O H1 d (.ref b) := a1
        cases d with
        | non => unfold At at a1; cases a1
        | bl _ => unfold At at a1; cases a1
        | int _ => unfold At at a1; cases a1
        | str _ => unfold At at a1; cases a1
        | tup _ => unfold At at a1; obtain ⟨a, vs, e1, n, _⟩ := a1; cases e1; exact n
        | lst _ => unfold At at a1; obtain ⟨a, vs, e1, n, _⟩ := a1; cases e1; exact n
        | dct _ => unfold At at a1; obtain ⟨a, vs, e1, n, _⟩ := a1; cases e1; exact n
      | own d =>
        obtain ⟨a, e1, n, _⟩ := a1
        subst e1
        cases eb
        exact .inr (.inl n)
      | bor d => cases q
    · rw [q] at p1; exact False.elim (show False from p1)⟩
section
variable {B : Type} {P : Rs B → Prop} {H0 H : Hp} {O : Addr → Prop} {e : En} {σ : L2.St} {vars : Nat → Prop}
theorem tWk_bind (w : Wants W C.mg σ H0 P) (s0 : Same H0 H) {g : RV → Rs B} {Kt : VK} (R : ERel C.K Er O e σ H) (hp : P ((f e).bind g))
    (k : ∀ r v H1, f e = .ok r → Same H H1 → ResOk C.K O H H1 r v → spot O σ H vars v → ERel C.K Er O e σ H1 → P (g r) → Kt v H1) : tWk C Er W vars f σ H Kt := by
  refine ⟨O, e, R, ?_⟩
  cases q : f e with
  | stuck => rw [q] at hp; exact (w.stuck hp).elim
  | exc c => rw [q] at hp; exact (w.exc hp).step s0
  | ok r =>
    rw [q] at hp
    exact fun v H1 s a sp => k r v H1 q s a sp (R.step s) hp
end
theorem spot_one {O : Addr → Prop} {σ : L2.St} {H : Hp} {vars : Nat → Prop} {a : Addr} (h : spot O σ H vars (.ref a)) : ∀ b, b ∈ [a] → ¬ O b ∨ H b = none ∨ ∃ i, vars i ∧ σ[i]? = some (some (.ref b)) := fun b hb => by
  have e : b = a := by simpa using hb
  exact h b (by rw [e])
theorem itemsOf_cases (r : RV) : (∃ l, itemsOf r = .ok l) ∨ itemsOf r = .stuck := by
  unfold itemsOf
  split <;> first
    | exact .inr rfl
    | (split <;> first
      | exact .inl ⟨_, rfl⟩
      | exact .inr rfl)
/-- over a list, over a dict's keys -/
theorem ci_ex {vars : Nat → Prop} (hx : PE C x (tWk C Er W vars f)) : PI C tg x (cI C Er W vars fun e => (f e).bind itemsOf) := by
  refine pi_case fun σ H R0 ⟨O, e, R, hp⟩ => ?_
  by_cases hd : ∃ r ks, f e = .ok r ∧ r.d = .dct ks
  · obtain ⟨r0, ks, q0, qd⟩ := hd
    refine ⟨_, pi_keys (pe_lk hx), tWk_bind wants_I (.refl H) R hp fun r v H1 q1 s1 a1 sp R1 p1 => ?_⟩
    rw [q0] at q1
    cases q1
    have a3 := ResOk.any a1
    unfold itemsOf at p1
    rw [qd] at a3 p1
    obtain ⟨a, kvs, e1, r1, l1⟩ := a3
    subst e1
    have p1 : PostI C W O σ H vars R0 (if ks.length ≤ lim then .ok (ks.map fun kv => .str kv.1) else .stuck) := p1
    by_cases hl : ks.length ≤ lim
    · rw [if_pos hl] at p1
      rcases r1 with r1 | ⟨o, r1⟩
      · refine ⟨a, kvs, rfl, .inl ⟨r1, fun o no => ⟨a, o, rfl, .inl ⟨kvs, upd_same, ?_⟩⟩⟩⟩
        exact p1 _ _ _ _ _ H1 _ s1 (.inr ⟨a, o, kvs, by simp, r1, rfl, no⟩) (walk_keys (AtD.keys l1)) upd_same .nil (spot_one sp) (by rw [List.length_map]; exact hl)
      · refine ⟨a, kvs, rfl, .inr ⟨o, r1, a, o, rfl, .inl ⟨kvs, r1, ?_⟩⟩⟩
        exact p1 _ _ _ _ _ H1 _ s1 (.inl rfl) (walk_keys (AtD.keys l1)) r1 .nil (spot_one sp) (by rw [List.length_map]; exact hl)
    · rw [if_neg hl] at p1; exact False.elim (show False from p1)
  · refine ⟨_, pi_list hx, tWk_bind wants_I (.refl H) R hp fun r v H1 q1 s1 a1 sp R1 p1 => ?_⟩
    have nd : ∀ ks, r.d ≠ .dct ks := fun ks z => hd ⟨r, ks, q1, z⟩
    have a3 := ResOk.any a1
    unfold itemsOf at p1
    generalize r.d = d at p1 a3 nd
    cases d with
    | dct ks => exact absurd rfl (nd ks)
    | lst ds =>
      obtain ⟨a, vs, e1, r1, l1⟩ := a3
      subst e1
      have p1 : PostI C W O σ H vars R0 (if ds.length ≤ lim then .ok ds else .stuck) := p1
      by_cases hl : ds.length ≤ lim
      · rw [if_pos hl] at p1
        exact ⟨a, rfl, ⟨vs, r1⟩, p1 _ _ _ _ _ H1 _ s1 (.inl rfl) (walk_list l1.length) r1 l1 (spot_one sp) hl⟩
      · rw [if_neg hl] at p1; exact False.elim (show False from p1)
    | _ => exact False.elim (show False from p1)
theorem pa_one {t : TE} (hx : PE C x t) (ns : noStar x = true) : PA C [x] (tCons t tNil) := pa_cons hx pa_nil (star_cons ns _ _)
theorem ci_range (hb : BltOk C) (gl : Gl C "range") (hx : PE C x (cX C Er W f)) (ns : noStar x = true) : PI C tg (.Call (.Name "range" p) [x] [] pos) (cI C Er W (fun _ => False) fun e => (f e).bind rangeOf) :=
  pi_case fun σ H R0 ⟨O, e, R, hp⟩ => ⟨_, pi_range1 gl (hb.no _ (by decide)) (pa_one hx ns) (star_cons ns _ _), tX_bind wants_I (.refl H) R hp fun r v H1 q1 s1 a1 R1 p1 => by
    cases r with
    | own d => exact False.elim (show False from p1)
    | bor d => exact False.elim (show False from p1)
    | val d =>
      cases d <;> first
        | exact False.elim (show False from p1)
        | skip
      rename_i n
      cases any_int (ResOk.any a1)
      have p1 : PostI C W O σ H (fun _ => False) R0 (if -(2 ^ 62) ≤ n ∧ n < lim then .ok ((List.range n.toNat).map fun (i : Nat) => D.int i) else .stuck) := p1
      by_cases hl : -(2 ^ 62) ≤ n ∧ n < lim
      · rw [if_pos hl] at p1
        have z : (lim : Int) = 16777216 := rfl
        refine ⟨n, rfl, hl.1, by omega, p1 _ [] [] [] _ H1 _ s1 (.inl rfl) walk_range True.intro .nil (fun b hb => by simp at hb) ?_⟩
        rw [List.length_map, List.length_range]
        omega
      · rw [if_neg hl] at p1; exact False.elim (show False from p1)⟩
theorem ci_enum {vars : Nat → Prop} {elts : List Expr} {kk : Nat} {tpos : Pos} (hb : BltOk C) (gl : Gl C "enumerate") (hx : PE C x (tWk C Er W vars f)) (ns : noStar x = true) :
    PI C (.Tuple elts kk tpos) (.Call (.Name "enumerate" p) [x] [] pos) (cI C Er W vars fun e => (f e).bind enumOf) :=
  pi_case fun σ H R0 ⟨O, e, R, hp⟩ => ⟨_, pi_enum gl (hb.no _ (by decide)) (pa_one hx ns) (star_cons ns _ _), tWk_bind wants_I (.refl H) R hp fun r v H1 q1 s1 a1 sp R1 p1 => by
    have a3 := ResOk.any a1
    unfold enumOf at p1
    generalize r.d = d at p1 a3
    cases d <;> first
      | exact False.elim (show False from p1)
      | skip
    rename_i ds
    obtain ⟨a, vs, e1, r1, l1⟩ := a3
    subst e1
    have p1 : PostI C W O σ H vars R0 (if ds.length ≤ lim then .ok (enumFrom 0 ds) else .stuck) := p1
    by_cases hl : ds.length ≤ lim
    · rw [if_pos hl] at p1
      exact ⟨a, vs, rfl, r1, p1 _ _ _ _ _ H1 _ s1 (.inl rfl) (walk_enum l1.length) r1 l1 (spot_one sp) (by rw [enum_len]; exact hl)⟩
    · rw [if_neg hl] at p1; exact False.elim (show False from p1)⟩
theorem ci_rev {vars : Nat → Prop} (hb : BltOk C) (gl : Gl C "reversed") (hx : PE C x (tWk C Er W vars f)) (ns : noStar x = true) :
    PI C tg (.Call (.Name "reversed" p) [x] [] pos) (cI C Er W vars fun e => (f e).bind revOf) :=
  pi_case fun σ H R0 ⟨O, e, R, hp⟩ => ⟨_, pi_reversed gl (hb.no _ (by decide)) (pa_one hx ns) (star_cons ns _ _), tWk_bind wants_I (.refl H) R hp fun r v H1 q1 s1 a1 sp R1 p1 => by
    have a3 := ResOk.any a1
    unfold revOf at p1
    generalize r.d = d at p1 a3
    cases d <;> first
      | exact False.elim (show False from p1)
      | skip
    rename_i ds
    obtain ⟨a, vs, e1, r1, l1⟩ := a3
    subst e1
    have p1 : PostI C W O σ H vars R0 (if ds.length ≤ lim then .ok ds.reverse else .stuck) := p1
    by_cases hl : ds.length ≤ lim
    · rw [if_pos hl] at p1
      exact ⟨a, vs, rfl, r1, p1 _ _ _ _ _ H1 _ s1 (.inl rfl) (walk_rev l1.length) r1 l1 (spot_one sp) (by rw [List.length_reverse]; exact hl)⟩
    · rw [if_neg hl] at p1; exact False.elim (show False from p1)⟩
theorem ci_zip {vars vars2 : Nat → Prop} {elts : List Expr} {kk : Nat} {tpos : Pos} (hb : BltOk C) (gl : Gl C "zip") (hx : PE C x (tWk C Er W vars f)) (hy : PE C y (tWk C Er W vars2 g)) (ns : noStar x = true) (ns2 : noStar y = true) :
    PI C (.Tuple elts kk tpos) (.Call (.Name "zip" p) [x, y] [] pos) (cI C Er W (fun i => vars i ∨ vars2 i) fun e => (f e).bind fun a => (g e).bind fun b => zipOf a b) :=
  pi_case fun σ H R0 ⟨O, e, R, hp⟩ => ⟨_, pi_zip gl (hb.no _ (by decide)) (pa_cons hx (pa_one hy ns2) (star_cons ns _ _)) (star_cons ns _ _) (by rw [star_cons ns2]; rfl),
    tWk_bind wants_I (.refl H) R hp fun r v H1 q1 s1 a1 sp R1 p1 => tWk_bind wants_I s1 R1 p1 fun r2 v2 H2 q2 s2 a2 sp2 R2 p2 => by
      have a3 := (ResOk.any a1).same s2
      have a4 := ResOk.any a2
      unfold zipOf at p2
      generalize r.d = d at p2 a3
      generalize r2.d = d2 at p2 a4
      cases d <;> first
        | exact False.elim (show False from p2)
        | skip
      rename_i ds
      cases d2 <;> first
        | exact False.elim (show False from p2)
        | skip
      rename_i es
      obtain ⟨a, vs, e1, r1, l1⟩ := a3
      obtain ⟨b, us, e2, r2, l2⟩ := a4
      subst e1 e2
      have p2 : PostI C W O σ H (fun i => vars i ∨ vars2 i) R0 (if ds.length = es.length ∧ ds.length ≤ lim then .ok ((ds.zip es).map fun p => .tup [p.1, p.2]) else .stuck) := p2
      by_cases hl : ds.length = es.length ∧ ds.length ≤ lim
      · rw [if_pos hl] at p2
        refine ⟨a, b, vs, us, rfl, r1, r2, p2 _ _ _ _ _ H2 _ (s1.trans s2) (.inl rfl) (walk_zip l1.length l2.length hl.1) ⟨r1, r2⟩ (l1.append l2) (fun c hc => ?_) ?_⟩
        · have e3 : c = a ∨ c = b := by simpa using hc
          rcases e3 with e3 | e3
          · subst e3
            rcases sp c rfl with z | z | ⟨i, z1, z2⟩
            · exact .inl z
            · exact .inr (.inl z)
            · exact .inr (.inr ⟨i, .inl z1, z2⟩)
          · subst e3
            rcases sp2 c rfl with z | z | ⟨i, z1, z2⟩
            · exact .inl z
            · exact .inr (.inl (s1.free z))
            · exact .inr (.inr ⟨i, .inr z1, z2⟩)
        · rw [List.length_map, List.length_zip, ← hl.1, Nat.min_self]
          exact hl.2
      · rw [if_neg hl] at p2; exact False.elim (show False from p2)⟩
end
end Ev
set_option Elab.async false
set_option linter.all false
set_option maxRecDepth 100000
set_option maxHeartbeats 4000000
set_option autoImplicit false
/-! Targets; comprehensions. -/
namespace Ev
open PySem PySem.Spec PyProof.Rows L2

/-! ### targets -/
def tgG (K : PySem.W.Frag) : List Nat → TG
  | [i] => gName i
  | [i, j] => gTup K 2 (gCons (gName i) (gCons (gName j) gNil))
  | _ => fun _ _ _ _ => False
/-- one name given data -/
def Set1 (O : Addr → Prop) (H : Hp) (i : Nat) (e : En) (σ : L2.St) (e' : En) (σ' : L2.St) : Prop := ∃ d v, At O H d v ∧ e' = e.set i (.val d) ∧ σ' = σ.set i (some v)
def SetN (O : Addr → Prop) (H : Hp) : List Nat → En → L2.St → En → L2.St → Prop
  | [i], e, σ, e', σ' => Set1 O H i e σ e' σ'
  | [i, j], e, σ, e', σ' => ∃ e1 σ1, Set1 O H i e σ e1 σ1 ∧ Set1 O H j e1 σ1 e' σ'
  | _, _, _, _, _ => False
theorem set_ok {tg : List Nat} {d : D} {e : En} : (∃ e', setT tg d e = .ok e') ∨ setT tg d e = .stuck := by
  unfold setT
  split <;> first
    | exact .inl ⟨_, rfl⟩
    | exact .inr rfl
theorem tg_run {K : PySem.W.Frag} {O : Addr → Prop} {H : Hp} {d : D} {x : V} (h : At O H d x) : ∀ {tg : List Nat} {e e' : En} {σ : L2.St} {Q : L2.St → Hp → Prop}, setT tg d e = .ok e' → (∀ σ', SetN O H tg e σ e' σ' → Q σ' H) → tgG K tg x σ H Q
  | [], e, e', σ, Q, q, _ => (stuck_no q).elim
  | [i], e, e', σ, Q, q, k => by
    have q : e.set i (.val d) = e' := ok_inj q
    exact k _ ⟨d, x, h, q.symm, rfl⟩
  | [i, j], e, e', σ, Q, q, k => by
    cases d <;> first
      | exact (stuck_no q).elim
      | skip
    rename_i ds
    match ds, h, q with
    | [a, b], h, q =>
      have q : (e.set i (.val a)).set j (.val b) = e' := ok_inj q
      unfold At at h
      obtain ⟨T, vs, e1, _, r, l⟩ := h
      unfold AtL at l
      obtain ⟨v1, t1, e2, a1, l⟩ := l
      unfold AtL at l
      obtain ⟨v2, t2, e3, a2, l⟩ := l
      unfold AtL at l
      subst e1 l e3 e2
      exact ⟨T, [v1, v2], rfl, .inl r, rfl, v1, [v2], rfl, v2, [], rfl, rfl, k _ ⟨_, _, ⟨a, v1, a1, rfl, rfl⟩, b, v2, a2, q.symm, rfl⟩⟩
    | [], h, q => exact (stuck_no q).elim
    | [_], h, q => exact (stuck_no q).elim
    | _ :: _ :: _ :: _, h, q => exact (stuck_no q).elim
  | _ :: _ :: _ :: _, e, e', σ, Q, q, _ => (stuck_no q).elim
section
variable {K : PySem.W.Frag} {Er : Addr → Str → Prop} {O : Addr → Prop} {H : Hp} {e e' : En} {σ σ' : L2.St}
theorem ERel.put (R : ERel K Er O e σ H) {i : Nat} {c : Cel} {v : Option V} (h : SeeOk K Er O H c v) : ERel K Er O (e.set i c) (σ.set i v) H := by
  refine ⟨R.od, by rw [List.length_set, List.length_set]; exact R.len, fun j x hx => ?_⟩
  by_cases q : i = j
  · subst q
    by_cases hi : i < e.length
    · rw [List.getElem?_set_self hi] at hx
      cases hx
      rw [List.getElem?_set_self (by rw [← R.len]; exact hi)]
      exact h
    · rw [List.getElem?_eq_none (by rw [List.length_set]; omega)] at hx
      cases hx
  · rw [List.getElem?_set_ne q] at hx ⊢
    exact R.slot j x hx
theorem ERel.set1 (R : ERel K Er O e σ H) {i : Nat} (h : Set1 O H i e σ e' σ') : ERel K Er O e' σ' H := by
  obtain ⟨d, v, a, e1, e2⟩ := h
  rw [e1, e2]
  exact R.put ⟨v, rfl, a⟩
theorem ERel.setN (R : ERel K Er O e σ H) : ∀ {tg : List Nat}, SetN O H tg e σ e' σ' → ERel K Er O e' σ' H
  | [_], h => R.set1 h
  | [_, _], ⟨_, _, h1, h2⟩ => (R.set1 h1).set1 h2
theorem ERel.wipe (R : ERel K Er O e σ H) : ∀ tg : List Nat, ERel K Er O (wipeS tg e) (L2.wipe σ tg) H
  | [] => R
  | i :: r => by
    unfold wipeS L2.wipe
    exact (R.wipe r).put True.intro
theorem wipe_set {i : Nat} {v : Option V} : ∀ {tg : List Nat}, i ∈ tg → L2.wipe (σ.set i v) tg = L2.wipe σ tg
  | j :: r, h => by
    unfold L2.wipe
    by_cases q : i ∈ r
    · rw [wipe_set q]
    · have e : j = i := by
        rcases List.mem_cons.mp h with z | z
        · exact z.symm
        · exact absurd z q
      subst e
      have z : ∀ r : List Nat, j ∉ r → L2.wipe (σ.set j v) r = (L2.wipe σ r).set j v := by
        intro r
        induction r with
        | nil => intro _; rfl
        | cons a r ih =>
          intro hr
          rw [List.mem_cons, not_or] at hr
          unfold L2.wipe
          rw [ih hr.2, List.set_comm _ _ hr.1]
      rw [z r q, List.set_set]
theorem wipe_wipe : ∀ {tg : List Nat}, L2.wipe (L2.wipe σ tg) tg = L2.wipe σ tg := by
  have z : ∀ (r tg : List Nat), (∀ i, i ∈ r → i ∈ tg) → L2.wipe (L2.wipe σ r) tg = L2.wipe σ tg := by
    intro r
    induction r with
    | nil => intro _ _; rfl
    | cons a r ih =>
      intro tg h
      show L2.wipe ((L2.wipe σ r).set a none) tg = _
      rw [wipe_set (h a List.mem_cons_self), ih tg fun i hi => h i (List.mem_cons_of_mem _ hi)]
  intro tg
  exact z tg tg fun _ h => h
theorem wipe_setN : ∀ {tg : List Nat}, SetN O H tg e σ e' σ' → L2.wipe σ' tg = L2.wipe σ tg
  | [i], ⟨d, v, _, _, e2⟩ => by rw [e2, wipe_set (by simp)]
  | [i, j], ⟨_, _, ⟨d, v, _, _, e2⟩, ⟨d', v', _, _, e4⟩⟩ => by rw [e4, wipe_set (by simp), e2, wipe_set (by simp)]
end
theorem loc_of {sc : Scope} {x : Str} (h : locB sc x = true) : Loc sc x := by
  unfold locB at h
  split at h
  · exact .inl (by assumption)
  · exact .inr (by assumption)
  · cases h
theorem pg_tg {C : Cx} {N : List Str} {sc : Scope} {tg : List Nat} {t : Expr} (hc : C.calm = true) (hn : C.N.Nodup) (eN : C.N = N) (es : C.env.scope = sc) (hf : ∀ y, y ∈ tgNames t → C.fn y = true ∨ C.env.scope.names.lookup y = some .local) (h : tgOk N sc tg t = true) : PG C t (tgG C.K tg) := by
  subst eN es
  unfold tgOk at h
  split at h
  · rename_i i y p
    unfold stB at h
    rw [Bool.and_eq_true, decide_eq_true_eq] at h
    exact pg_name hn h.1 (loc_of h.2) (hf y (by simp [tgNames]))
  · rename_i i j x p y q k r
    rw [Bool.and_eq_true, Bool.and_eq_true] at h
    obtain ⟨⟨h1, h2⟩, _⟩ := h
    unfold stB at h1 h2
    rw [Bool.and_eq_true, decide_eq_true_eq] at h1 h2
    exact pg_tup hc (pgs_cons (pg_name hn h1.1 (loc_of h1.2) (hf x (by simp [tgNames]))) (pgs_cons (pg_name hn h2.1 (loc_of h2.2) (hf y (by simp [tgNames]))) pgs_nil))
  · cases h

/-! ### comprehensions -/
theorem Lk.eq {C : Cx} {H1 HL : Hp} {Kp : List Addr} (k : Lk C H1 HL Kp) {b : Addr} (n : b ∉ Kp) : HL b = H1 b := by
  rcases k with e | ⟨d, o, kvs, hd, h, e, _⟩
  · rw [e]
  · rw [e, upd_ne (fun z => n (by rw [z]; exact hd))]
def one (tg : List Nat) (fc fe : En → Rs RV) (e : En) (d : D) : Rs (Option D) :=
  ((setT tg d (wipeS tg e)).bind fun e' => ((fc e').bind asBl).bind fun b => if b = true then (fe e').bind fun y => (asVal y).bind fun d => .ok (some d) else .ok none).noX
theorem drop_get {A : Type} {l : List A} {i : Nat} {x : A} (h : l[i]? = some x) : l.drop i = x :: l.drop (i + 1) := by
  obtain ⟨h1, h2⟩ := List.getElem?_eq_some_iff.mp h
  rw [List.drop_eq_getElem_cons h1, h2]
section
variable {C : Cx} {Er : Addr → Str → Prop} {W W' : WX}
theorem comp_run {tg : List Nat} {own : List (Str × Nat)} {vars : Nat → Prop} {fit : En → Rs (List D)} {fc fe : En → Rs RV} {O : Addr → Prop} {e : En} {σ : L2.St} {H : Hp} {Q : VK}
    (ho : own.map (·.2) = tg) (R : ERel C.K Er O e σ H) (hp : PostX C.K C.mg W O σ H Q ((fit e).bind fun its => if its.length ≤ lim then (compL (one tg fc fe e) its).bind fun l => .ok (.own (.lst l)) else .stuck)) :
    tLc (cI C Er W vars fit) (tgG C.K tg) (tT C.K C.mg Er W' fun e => (fc e).bind asBl) (tX C.K C.mg Er W' fe) (own.map (·.2)) σ H (fun v H1 => ∃ H0, Ulk C H1 H0 ∧ Q v H0) := by
  refine ⟨O, e, R, ?_⟩
  cases qi : fit e with
  | stuck => rw [qi] at hp; exact hp
  | exc c => rw [qi] at hp; exact hp
  | ok its =>
  rw [qi, bind_ok] at hp
  intro J ds vs Kp Keep H1 HL s1 lk wk kp al sp hl L hD
  rw [if_pos hl] at hp
  rw [ho]
  have RL := lk.erel (R.step s1)
  have hDn : H L = none := s1.free (lk.off.mp hD)
  have tD : Tr O (with1 O L) HL HL := Tr.grow fun b z => z.elim .inl fun e => .inr (by rw [e]; exact hD)
  let Wi : Nat → Hp → Prop := fun i H2 => ∃ done acc, H2 L = some (.lst acc) ∧ AtL (with1 O L) H2 done acc ∧ acc.length ≤ i ∧ Same HL H2 ∧
    PostX C.K C.mg W O σ H Q ((compL (one tg fc fe e) (its.drop i)).bind fun l => .ok (.own (.lst (done ++ l))))
  refine ⟨fun i m H2 => m = its.length - i ∧ i ≤ its.length ∧ Wi i H2, ⟨its.length, by simp, Nat.zero_le _, [], [], upd_same, .nil, Nat.le_refl _, same_new hD _, hp⟩, ?_⟩
  intro i m H2 ⟨em, hi2, done, acc, hDc, ald, hlen, s2, p⟩
  subst em
  have kp2 := wk.keep HL H2 kp fun b _ o e => s2 b o e
  by_cases hlt : i < its.length
  · refine .inr ⟨wk.go i H2 kp2 hlt, Wi (i + 1), fun H' w => ⟨its.length - (i + 1), by omega, rfl, hlt, w⟩, fun x H3 y => ?_⟩
    have hO2 : ∀ b, with1 O L b → H2 b ≠ none := fun b z => by
      rcases z with z | z
      · intro q
        exact RL.od b z (s2.free q)
      · rw [z, hDc]
        intro q
        cases q
    obtain ⟨s3, d, hd, ax⟩ := wk.yld i H2 x H3 (with1 O L) kp2 (AtL.tr (lk.tr.trans (tD.trans (.same s2))) _ _ al) hO2 hlt y
    rw [drop_get hd] at p
    have p : PostX C.K C.mg W O σ H Q (((one tg fc fe e d).bind fun o => (compL (one tg fc fe e) (its.drop (i + 1))).bind fun l => match o with
      | some d => .ok (d :: l)
      | none => .ok l).bind fun l => .ok (.own (.lst (done ++ l)))) := p
    rw [Rs.assoc] at p
    let G : Option Ev.D → Rs RV := fun o => (((compL (one tg fc fe e) (its.drop (i + 1))).bind fun l => match o with
      | some d => .ok (d :: l)
      | none => .ok l).bind fun l => .ok (.own (.lst (done ++ l))))
    have p : PostX C.K C.mg W O σ H Q ((one tg fc fe e d).bind G) := p
    unfold one at p
    rcases set_ok (tg := tg) (d := d) (e := wipeS tg e) with ⟨e', q1⟩ | q1
    · rw [q1, bind_ok] at p
      refine tg_run ax q1 fun σ2 sn => ⟨by rw [wipe_setN sn, wipe_wipe], ?_⟩
      have s23 : Same (upd HL L (.lst acc)) H3 := fun b o q => by
        by_cases z : b = L
        · rw [z, upd_same] at q
          rw [z]
          exact s3 _ _ (hDc.trans q)
        · rw [upd_ne z] at q
          exact s3 _ _ (s2 _ _ q)
      have R3 : ERel C.K Er (with1 O L) e' σ2 H3 := (((RL.apart hD (.lst acc)).step s23).wipe tg).setN sn
      have w2 : ∀ H', Wants W' C.mg σ2 H' (fun z : Rs (Option Ev.D) => PostX C.K C.mg W O σ H Q (z.noX.bind G)) := fun H' => ⟨fun h => False.elim (show False from h), fun h => h⟩
      have eD : H3 L = some (.lst acc) := s3 _ _ hDc
      have al3 : AtL (with1 O L) H3 done acc := AtL.tr (.same s3) _ _ ald
      have sL3 : Same HL H3 := s2.trans s3
      refine tT_bind (w2 H3) (.refl H3) R3 p fun b H4 _ s4 R4 p4 => ?_
      cases b with
      | false =>
        rw [if_neg Bool.false_ne_true] at p4 ⊢
        have p4 : PostX C.K C.mg W O σ H Q (G none) := p4
        have p4 : PostX C.K C.mg W O σ H Q (((compL (one tg fc fe e) (its.drop (i + 1))).bind fun l => .ok l).bind fun l => .ok (.own (.lst (done ++ l)))) := p4
        rw [Rs.assoc] at p4
        exact ⟨done, acc, s4 _ _ eD, AtL.tr (.same s4) _ _ al3, Nat.le_succ_of_le hlen, sL3.trans s4, p4⟩
      | true =>
        rw [if_pos rfl] at p4 ⊢
        refine tX_bind (w2 H4) (.refl H4) R4 p4 fun r v H5 _ s5 a5 R5 p5 => ?_
        rcases asVal_cases r with ⟨d', q5⟩ | q5
        · rw [q5, bind_ok] at p5
          have p5 : PostX C.K C.mg W O σ H Q (((compL (one tg fc fe e) (its.drop (i + 1))).bind fun l => .ok (d' :: l)).bind fun l => .ok (.own (.lst (done ++ l)))) := p5
          rw [Rs.assoc] at p5
          have a6 := a5.val R4.od q5
          have eD5 : H5 L = some (.lst acc) := s5 _ _ (s4 _ _ eD)
          refine ⟨acc, eD5, ?_, done ++ [d'], acc ++ [v], upd_same, ?_, by rw [List.length_append]; exact Nat.succ_le_succ hlen, fun b o q => ?_, ?_⟩
          · rw [← lim_eq]; omega
          · refine AtL.tr (fun a u _ na r => ⟨na, ?_⟩) _ _ ((AtL.tr (.same (s4.trans s5)) _ _ al3).append (.one a6))
            have ne : a ≠ L := fun z => na (.inr z)
            rcases r with r | ⟨o, r⟩
            · exact .inl (by rw [upd_ne ne]; exact r)
            · exact .inr ⟨o, by rw [upd_ne ne]; exact r⟩
          · rw [upd_ne (ne_of_none q hD)]
            exact s5 _ _ (s4 _ _ (sL3 _ _ q))
          · have ef : (fun l : List Ev.D => (Rs.ok (RV.own (.lst ((done ++ [d']) ++ l))) : Rs RV)) = fun l => Rs.ok (RV.own (.lst (done ++ (d' :: l)))) := by
              funext l
              rw [List.append_assoc]
              rfl
            rw [ef]
            exact p5
        · rw [q5] at p5; exact False.elim (show False from p5)
    · rw [q1] at p; exact False.elim (show False from p)
  · have ei : i = its.length := by omega
    subst ei
    rw [List.drop_length] at p
    have p : PostX C.K C.mg W O σ H Q (.ok (.own (.lst (done ++ [])))) := p
    rw [List.append_nil] at p
    obtain ⟨H0, k1, k2, k3, k4, k5, k6⟩ := lk.back (fun b _ o q => s2 b o q) (fun b o n q => s2 b o (by rw [lk.eq n]; exact q))
    refine .inl ⟨wk.stop _ H2 kp2 (Nat.le_refl _), H0, k1, p _ H0 (s1.trans k2) ⟨L, rfl, hDn, acc, k6 _ _ hDc (fun _ _ z => by cases z), ?_⟩⟩
    exact AtL.tr (fun a u pl na r => ⟨na, k4 a u pl r⟩) _ _ ald
theorem c_comp {elt t i : Expr} {cs : List Expr} {scope : Scope} {pos : Pos} {tg : List Nat} {own : List (Str × Nat)} {vars : Nat → Prop} {fit : En → Rs (List D)} {fc fe : En → Rs RV}
    (hc : C.calm = true) (hN : C.N.Nodup) (hi : PI C t i (cI C Er W vars fit)) (ok : BlkOk C.N C.env.scope scope own) (ho : own.map (·.2) = tg)
    (hg : ∀ (s : Shared) (H : Hp) (Cl : Addr) (cl : List (Str × Addr)) (fp : List Addr), PG (C.blk s H scope (compEnvC scope cl Cl C.env) fp) t (tgG C.K tg))
    (ht : ∀ (s : Shared) (H : Hp) (Cl : Addr) (cl : List (Str × Addr)) (fp : List Addr), PTs (C.blk s H scope (compEnvC scope cl Cl C.env) fp) cs (tT C.K C.mg Er W' fun e => (fc e).bind asBl))
    (he : ∀ (s : Shared) (H : Hp) (Cl : Addr) (cl : List (Str × Addr)) (fp : List Addr), PE (C.blk s H scope (compEnvC scope cl Cl C.env) fp) elt (tX C.K C.mg Er W' fe))
    (hs : ∀ x, foldedSetIterable i C.env x = pure x) :
    PE C (.ListComp elt [⟨t, i, cs, 0⟩] scope pos) (cX C Er W fun e => (fit e).bind fun its => if its.length ≤ lim then (compL (one tg fc fe e) its).bind fun l => .ok (.own (.lst l)) else .stuck) :=
  pe_case fun σ H Q ⟨O, e, R, hp⟩ => ⟨_, pe_ul (pe_lc hc hN hi ok hg ht he hs), comp_run ho R hp⟩
end
end Ev
set_option Elab.async false
set_option linter.all false
set_option maxRecDepth 100000
set_option maxHeartbeats 4000000
set_option autoImplicit false
/-! Calls of the program's own defs. -/
namespace Ev
open PySem PySem.Spec PyProof.Rows L2

/-- what a def promises, where nothing is being shown -/
structure FnG (P : Program) (w : World) (K : PySem.W.Frag) (mg : Str → Option Value) (base : Heap) (k : Nat) (f : Addr) (fd : FuncData) (ps : List Str) (sp : Sp) : Prop where
  len : ∀ vs H Q E, sp vs H Q E → vs.length = ps.length
  run : ∀ (A : Around) (out : List Env) (s : Shared) (H : Hp) (args : Args) (us : List Value) (vs : List V) (Q : VK) (E : XK), Room k A → A.guards = some [] → Env0 P w K mg base A out s H → BindsTo s fd args (ps.zip us) → Vals vs us →
    sp vs H Q E → codeAny (model P w) A (.call (.ref f) args) (CR (L2.CX P w) out P w H s Q E) s
section
variable {C : Cx} {k : Nat} {f : Addr} {fd : FuncData} {ps : List Str} {sp : Sp} {W : WX} {pins : List (Addr × Obj)} {σ : L2.St} {H : Hp} {s : Shared}
theorem run_fnG {Q : VK} {us : List Value} {vs : List V} (F : FnG C.prog C.w C.K C.mg C.base k f fd ps sp) (rm : Room k C.A) (hg : C.A.guards = some []) (hb : Binds C.K fd ps []) (tk : Takes C W)
    (I : Inv C pins σ H s) (r : Vals vs us) (h : sp vs H Q (WE W σ)) : wpAny (model C.prog C.w) C.A (call (.ref f) us) (EP C pins σ Q) C.xe s := by
  have n : us.length = ps.length := by rw [← F.len _ _ _ _ h]; exact r.length.symm
  have bt := hb s us I.kIn (by rw [List.append_nil]; exact n)
  rw [List.append_nil] at bt
  refine wpAny_call (codeAny_mono (F.run C.A C.stack s H ⟨us, []⟩ us vs Q (WE W σ) rm hg I.env0 bt r h) ?_)
  intro r s' q
  match r, q with
  | .error e, q => exact passAt tk σ pins H s e s' I q
  | .ok (.ret u), q => exact I.after q
  | .ok .next, q => exact False.elim q
  | .ok .brk, q => exact False.elim q
  | .ok .cont, q => exact False.elim q
def tCallG (sp : Sp) (W : WX) (t : TA) : TE := fun σ H Q => t σ H fun vs H1 => sp vs H1 Q (WE W σ)
theorem pe_callG {x : Str} {e : Expr} {es : List Expr} {t : TA} {p pos : Pos} (F : FnG C.prog C.w C.K C.mg C.base k f fd ps sp) (rm : Room k C.A) (hg : C.A.guards = some []) (gl : Gl C x) (hm : C.mg x = some (.ref f)) (hk : PySem.W.keepIn C.K (.ref f) = true)
    (hb : Binds C.K fd ps []) (tk : Takes C W) (ha : PA C (e :: es) t) (hd : (x == ("__debug__" : Str)) = false) (ns : (e :: es).all noStar = true) : PE C (.Call (.Name x p) (e :: es) [] pos) (tCallG sp W t) := by
  rw [List.all_cons, Bool.and_eq_true] at ns
  refine ⟨fun pins s σ H Q I h => wpAny_Call_Name_kw (ld_glob I gl hm ?_ hd)⟩
  exact PySem.W.callWith_K (h₀ := C.base) I.ok.mod.kin hk (thn (ha.run pos pins s σ H _ I h) fun us s1 ⟨vs, H1, I1, r, q⟩ => ⟨I1.kIn, run_fnG F rm hg hb tk I1 r q⟩) (star_cons ns.1 _ _) (star_any ns.2)
theorem pe_callG0 {x : Str} {p pos : Pos} (F : FnG C.prog C.w C.K C.mg C.base k f fd ps sp) (rm : Room k C.A) (hg : C.A.guards = some []) (gl : Gl C x) (hm : C.mg x = some (.ref f)) (hk : PySem.W.keepIn C.K (.ref f) = true)
    (hb : Binds C.K fd ps []) (tk : Takes C W) (hd : (x == ("__debug__" : Str)) = false) : PE C (.Call (.Name x p) [] [] pos) (tCallG sp W tNil) :=
  ⟨fun pins s σ H Q I h => wpAny_Call_Name_kw (ld_glob I gl hm (PySem.W.callWith_K0 I.kIn hk (run_fnG (us := []) F rm hg hb tk I .nil h)) hd)⟩
end

/-- a def by its body, where nothing is being shown -/
theorem fn_ofG {P : Program} {w : World} {K : PySem.W.Frag} {mg : Str → Option Value} {base : Heap} {k : Nat} {f : Addr} {name qual : Str} {params : Arguments} {body : List Stmt} {scope : Scope} {dV kV doc pm cdv ct oc : Value} {an od : Option Addr}
    {osl : Array (Option Value)} {N ps : List Str} {sp : Sp} (lk : K.lookup f = some ⟨oc, od, .func (PySem.W.fnOf name qual params body scope dV kV doc pm an cdv ct), osl⟩) (hcd : PySem.W.codeIn K cdv qual = true) (S : FnScope N ps scope)
    (len : ∀ vs H Q E, sp vs H Q E → vs.length = ps.length)
    (go : ∀ (A : Around) (out : List Env) (s : Shared) (H : Hp) (vs : List V) (Q : VK) (E : XK), Room k (A.deeper (envOfC qual scope s.heap.objs.size f cdv)) → (A.deeper (envOfC qual scope s.heap.objs.size f cdv)).guards = some [] → sp vs H Q E →
      ∃ t, PSs (cxOf (L2.CX P w) P w K mg base N qual scope f cdv A out s H E) body t ∧ t { nx := fun _ H' => Q .non H', rt := Q } (start N vs) H) :
    FnG P w K mg base (k + 1) f (PySem.W.fnOf name qual params body scope dV kV doc pm an cdv ct) ps sp := by
  constructor
  · exact len
  intro A out s H args us vs Q E rm gd e0 bt r hsp
  have n := len _ _ _ _ hsp
  have kin : K.In s.heap := e0.mod.kin.keeps fun b o z => (e0.bs b o z).1
  have nl : s.heap.NoLimit := e0.mod.nolimit.keeps fun b o z => (e0.bs b o z).1
  have kinds : ∀ y ∈ ps.zip us, scope.names.lookup y.1 = some .local ∨ (scope.names.lookup y.1 = some .cell ∧ ((cellsFrom (s.heap.objs.size + 1) scope.names []).lookup y.1).isSome = true) := fun y hy => by
    obtain ⟨a, b⟩ := y
    exact (S.par a (List.of_mem_zip hy).1).imp (fun q => q) fun q => ⟨q, PySem.W.cellsFrom_some _ _ _ (.inl q)⟩
  refine codeAny_call_function rm.depth (kin _ _ lk) rfl S.co S.gen rfl (PySem.W.codeRec_of kin hcd) (bt _ _ _ _ ?_)
  refine wpAny_newFunctionEnv_cells S.kind kinds fun env he s1 x => ?_
  subst he
  refine ⟨nl.keeps x.toInCall.keep, codeAny_func ?_⟩
  have gd2 : (A.deeper (envOfC qual scope s.heap.objs.size f cdv)).guards = some [] := by first | exact gd | (simpa [Around.deeper] using gd)
  obtain ⟨t, ht, hq⟩ := go A out s H vs Q E (rm.deeper _) gd2 hsp
  have J : Inv (cxOf (L2.CX P w) P w K mg base N qual scope f cdv A out s H E) [] (start N vs) H s1 := inv_start S rm.hd e0 n r x
  refine wpAny_mono (ht.run [] s1 (start N vs) H _ J hq) ?_ fun _ _ z => z
  intro fl s' hs
  match fl, hs with
  | .ret u, ⟨v, σ', H', J', rv, q⟩ => exact ⟨v, H', J'.os, J'.bare, J'.base, J'.hok, rv, q⟩
  | .next, ⟨σ', H', J', q⟩ => exact ⟨V.non, H', J'.os, J'.bare, J'.base, J'.hok, rfl, q⟩
  | .brk, ⟨_, _, _, q⟩ => exact False.elim q
  | .cont, ⟨_, _, _, q⟩ => exact False.elim q
end Ev
set_option Elab.async false
set_option linter.all false
set_option maxRecDepth 100000
set_option maxHeartbeats 4000000
set_option autoImplicit false
/-! Every expression that the look lets through does what the reckoner says. -/
namespace Ev
open PySem PySem.Spec PyProof.Rows L2

/-! ### what a def promises -/
def ArgOk (K : PySem.W.Frag) (O : Addr → Prop) (H : Hp) : RV → V → Prop
  | .val d, v => At O H d v
  | .own d, v => At O H d v
  | .bor d, v => ∃ a, v = .ref a ∧ BorAt K O H a d
def ArgsOk (K : PySem.W.Frag) (O : Addr → Prop) (H : Hp) : List RV → List V → Prop
  | [], vs => vs = []
  | r :: rs, vs => ∃ v t, vs = v :: t ∧ ArgOk K O H r v ∧ ArgsOk K O H rs t
theorem ResOk.arg {K : PySem.W.Frag} {O : Addr → Prop} {H H1 : Hp} (hO : ∀ b, O b → H b ≠ none) : ∀ {r : RV} {v : V}, ResOk K O H H1 r v → ArgOk K O H1 r v
  | .val _, _, h => h
  | .own _, _, h => ResOk.val (r := .own _) hO h rfl
  | .bor _, _, h => h
theorem ResL.args {K : PySem.W.Frag} {O : Addr → Prop} {H H1 : Hp} (hO : ∀ b, O b → H b ≠ none) : ∀ {rs : List RV} {vs : List V}, ResL K O H H1 rs vs → ArgsOk K O H1 rs vs
  | [], _, h => h
  | _ :: _, _, ⟨v, t, e, a, l⟩ => ⟨v, t, e, a.arg hO, ResL.args hO l⟩
theorem ArgsOk.length {K : PySem.W.Frag} {O : Addr → Prop} {H : Hp} : ∀ {rs : List RV} {vs : List V}, ArgsOk K O H rs vs → vs.length = rs.length
  | [], _, h => by unfold ArgsOk at h; rw [h]; rfl
  | _ :: _, _, ⟨v, t, e, _, l⟩ => by rw [e, List.length_cons, List.length_cons, ArgsOk.length l]
def PostF (K : PySem.W.Frag) (mg : Str → Option Value) (cmp : List Str) (O : Addr → Prop) (H : Hp) (Q : VK) (E : XK) : Rs RV → Prop
  | .ok r => ∀ v H', Same H H' → ResOk K O H H' r v → Q v H'
  | .exc c => ∀ cv H', Same H H' → mg c = some cv → E cv none H'
  | .stuck => False
def spF (T : Tab) (K : PySem.W.Frag) (mg : Str → Option Value) (cmp : List Str) (n f : Nat) : Sp := fun vs H Q E => ∃ (O : Addr → Prop) (args : List RV), (∀ b, O b → H b ≠ none) ∧ ArgsOk K O H args vs ∧ PostF K mg cmp O H Q E (callN T n f args)
theorem spF_len {T : Tab} {K : PySem.W.Frag} {mg : Str → Option Value} {cmp : List Str} {n f : Nat} {fn : Fn} (hf : T.fns[f]? = some fn) (vs : List V) (H : Hp) (Q : VK) (E : XK) (h : spF T K mg cmp n f vs H Q E) : vs.length = fn.ps.length := by
  obtain ⟨O, args, _, ha, p⟩ := h
  rw [ha.length]
  cases n with
  | zero => exact False.elim p
  | succ n =>
    unfold callN at p
    rw [hf] at p
    dsimp only at p
    by_cases q : args.length = fn.ps.length
    · exact q
    · rw [if_neg q] at p; exact False.elim p

/-- what an expression's surroundings give -/
structure Cok (T : Tab) (cons : List (Str × Int)) (cmp : List Str) (n : Nat) (hot : Bool) (Er : Addr → Str → Prop) (W : WX) (C : Cx) (sc : Scope) (N : List Str) : Prop where
  es : C.env.scope = sc
  eN : C.N = N
  nd : N.Nodup
  un : C.A.units + 190 < cLine
  calm : hot = false → C.calm = true
  guards : hot = false → C.A.guards = some []
  room : hot = false → Room n C.A
  sys : SysAt C.base
  blt : BltOk C
  consG : ∀ x i, (x, i) ∈ cons → ∃ t, C.mg x = some (.int i t)
  fns : ∀ f fn, T.fns[f]? = some fn → ∃ fa fd, FnG C.prog C.w C.K C.mg C.base n fa fd fn.ps (spF T C.K C.mg cmp n f) ∧ C.mg fn.name = some (.ref fa) ∧ PySem.W.keepIn C.K (.ref fa) = true ∧ Binds C.K fd fn.ps []
  tk : Takes C W
  isE : hot = true → ∀ (i : Nat) (c y : Str) (p q r pos : Pos), N[i]? = some y → Vis sc y → (y == ("__debug__" : Str)) = false → (y == ("__classdict__" : Str)) = false → Gl C "isinstance" → Gl C c → (c == ("__debug__" : Str)) = false → c ∈ cmp →
    PE C (.Call (.Name "isinstance" p) [.Name y q, .Name c r] [] pos) (cX C Er W fun e => match e[i]? with
      | some (.err c') => .ok (.val (.bl (T.sub c' c)))
      | _ => .stuck)
  isEs : hot = true → ∀ (i : Nat) (cs : List Str) (y : Str) (l : List Expr) (k : Nat) (p q r pos : Pos), N[i]? = some y → Vis sc y → (y == ("__debug__" : Str)) = false → (y == ("__classdict__" : Str)) = false → Gl C "isinstance" → nmsOk sc cs l = true → cs.length ≤ 1000 → (∀ c, c ∈ cs → c ∈ cmp) →
    PE C (.Call (.Name "isinstance" p) [.Name y q, .Tuple l k r] [] pos) (cX C Er W fun e => match e[i]? with
      | some (.err c') => .ok (.val (.bl (cs.any fun c => T.sub c' c)))
      | _ => .stuck)
section
variable {T : Tab} {cons : List (Str × Int)} {cmp : List Str} {n : Nat} {hot : Bool} {Er : Addr → Str → Prop} {W : WX} {C : Cx} {sc : Scope} {N : List Str}
theorem vis_of {x : Str} (h : visB sc x = true) : Vis sc x := by
  unfold visB at h
  split at h
  · exact .inl (by assumption)
  · exact .inr (.inl (by assumption))
  · exact .inr (.inr (by assumption))
  · cases h
theorem gl_of (K : Cok T cons cmp n hot Er W C sc N) {x : Str} (h : glB sc x = true) : Gl C x := by
  unfold glB at h
  split at h
  · rename_i e
    show C.env.scope.names.lookup x = _
    rw [K.es]
    exact e
  · cases h
theorem dbg_of {x : Str} (h : notDbg x = true) : (x == ("__debug__" : Str)) = false ∧ (x == ("__classdict__" : Str)) = false := by
  unfold notDbg at h
  simp only [Bool.and_eq_true, Bool.not_eq_true'] at h
  exact ⟨h.1.1, h.1.2⟩
theorem isNm_of {x : Str} {e : Expr} (h : isNm sc x e = true) : ∃ p, e = .Name x p ∧ glB sc x = true ∧ (x == ("__debug__" : Str)) = false := by
  unfold isNm at h
  split at h
  · rename_i y p
    rw [Bool.and_eq_true, Bool.and_eq_true, decide_eq_true_eq] at h
    obtain ⟨⟨h1, h2⟩, h3⟩ := h
    subst h1
    exact ⟨p, rfl, h2, (dbg_of h3).1⟩
  · cases h
theorem c_call (K : Cok T cons cmp n false Er W C sc N) {f : Nat} {fn : Fn} (hf : T.fns[f]? = some fn) {p pos : Pos} {l : List Expr} {fs : En → Rs (List RV)} (gl : glB sc fn.name = true) (hd : (fn.name == ("__debug__" : Str)) = false)
    (ha : PA C l (cXs C Er W fs)) (ns : l.all noStar = true) (ne : l ≠ []) : PE C (.Call (.Name fn.name p) l [] pos) (cX C Er W fun e => (fs e).bind fun rs => callN T n f rs) := by
  obtain ⟨fa, fd, F, hm, hk, hb⟩ := K.fns f fn hf
  have run : ∀ (t : TA) {σ : L2.St} {H : Hp} {Q : VK}, (t = cXs C Er W fs) → cX C Er W (fun e => (fs e).bind fun rs => callN T n f rs) σ H Q → tCallG (spF T C.K C.mg cmp n f) W t σ H Q := by
    intro t σ H Q et ⟨O, e, R, hp⟩
    subst et
    refine tXs_bind wants_X (.refl H) R hp fun rs vs H1 _ s1 l1 R1 p1 => ⟨O, rs, R1.od, l1.args R.od, ?_⟩
    cases q : callN T n f rs with
    | ok r => rw [q] at p1; exact fun v H' s' a => p1 v H' (s1.trans s') (a.from s1)
    | exc c => rw [q] at p1; exact fun cv H' s' m => p1 cv H' (s1.trans s') m
    | stuck => rw [q] at p1; exact p1
  cases l with
  | nil => exact absurd rfl ne
  | cons e es =>
    exact pe_case fun σ H Q h => ⟨_, pe_callG F (K.room rfl) (K.guards rfl) (gl_of K gl) hm hk hb K.tk ha hd ns, run _ rfl h⟩
theorem c_call0 (K : Cok T cons cmp n false Er W C sc N) {f : Nat} {fn : Fn} (hf : T.fns[f]? = some fn) {p pos : Pos} (gl : glB sc fn.name = true) (hd : (fn.name == ("__debug__" : Str)) = false) :
    PE C (.Call (.Name fn.name p) [] [] pos) (cX C Er W fun e => (Rs.ok []).bind fun rs => callN T n f rs) := by
  obtain ⟨fa, fd, F, hm, hk, hb⟩ := K.fns f fn hf
  refine pe_case fun σ H Q ⟨O, e, R, hp⟩ => ⟨_, pe_callG0 F (K.room rfl) (K.guards rfl) (gl_of K gl) hm hk hb K.tk hd, ?_⟩
  have hp : PostX C.K C.mg W O σ H Q (callN T n f []) := hp
  refine ⟨O, [], R.od, rfl, ?_⟩
  cases q : callN T n f [] with
  | ok r => rw [q] at hp; exact hp
  | exc c => rw [q] at hp; exact fun cv H' s' m => hp cv H' s' m
  | stuck => rw [q] at hp; exact hp

/-! ### the look's facts, undone -/
theorem and2 {a b : Bool} (h : (a && b) = true) : a = true ∧ b = true := by rwa [Bool.and_eq_true] at h
theorem star_of {fns : List Str} {cons : List (Str × Int)} {N : List Str} {cmp : List Str} {sc : Scope} {hot : Bool} {x : X} {e : Expr} (h : chkX fns cons N cmp sc hot x e = true) : noStar e = true := by
  cases e <;> first
    | rfl
    | (exfalso; cases x <;> (unfold chkX at h; first | (cases h; done) | skip))
end
end Ev
set_option Elab.async false
set_option linter.all false
set_option maxRecDepth 100000
set_option maxHeartbeats 4000000
set_option autoImplicit false
/-! The walk of every expression. -/
namespace Ev
open PySem PySem.Spec PyProof.Rows L2

theorem pts_case {C : Cx} {cs : List Expr} {t' : TT} (h : ∀ σ H Q, t' σ H Q → ∃ t, PTs C cs t ∧ t σ H Q) : PTs C cs t' :=
  ⟨fun pins s σ H Q I q => let ⟨_, p, q'⟩ := h σ H Q q; p.run pins s σ H Q I q'⟩
def xsLen : Xs → Nat
  | .nil => 0
  | .cons _ r => xsLen r + 1
section
variable {call : Nat → List RV → Rs RV} {sub : Sub}
theorem evXs_len : ∀ (es : Xs) (en : En) (rs : List RV), evXs call sub en es = .ok rs → rs.length = xsLen es
  | .nil, en, rs, h => by
    unfold evXs at h
    cases h
    rfl
  | .cons x r, en, rs, h => by
    unfold evXs at h
    obtain ⟨v, _, h2⟩ := bind_ok_eq h
    obtain ⟨vs, h3, h4⟩ := bind_ok_eq h2
    cases h4
    unfold xsLen
    rw [List.length_cons, evXs_len r en vs h3]
def kvFs (call : Nat → List RV → Rs RV) (sub : Sub) : Xs → List ((En → Rs RV) × (En → Rs RV))
  | .cons k (.cons v r) => ((fun en => evX call sub en k), fun en => evX call sub en v) :: kvFs call sub r
  | _ => []
end
section
variable {T : Tab} {cons : List (Str × Int)} {cmp : List Str} {n : Nat}
theorem chkXs_len {fns : List Str} {N : List Str} {sc : Scope} {hot : Bool} : ∀ (es : Xs) (l : List Expr), chkXs fns cons N cmp sc hot es l = true → l.length = xsLen es
  | .nil, [], _ => rfl
  | .nil, _ :: _, h => by unfold chkXs at h; cases h
  | .cons x r, [], h => by unfold chkXs at h; cases h
  | .cons x r, e :: l, h => by
    unfold chkXs at h
    obtain ⟨_, h2⟩ := and2 h
    unfold xsLen
    rw [List.length_cons, chkXs_len r l h2]
theorem chkXs_star {fns : List Str} {N : List Str} {sc : Scope} {hot : Bool} : ∀ (es : Xs) (l : List Expr), chkXs fns cons N cmp sc hot es l = true → l.all noStar = true
  | .nil, [], _ => rfl
  | .nil, _ :: _, h => by unfold chkXs at h; cases h
  | .cons x r, [], h => by unfold chkXs at h; cases h
  | .cons x r, e :: l, h => by
    unfold chkXs at h
    obtain ⟨h1, h2⟩ := and2 h
    rw [List.all_cons, star_of h1, chkXs_star r l h2]
    rfl
theorem chkKv_ev {fns : List Str} {N : List Str} {sc : Scope} {hot : Bool} {call : Nat → List RV → Rs RV} {sub : Sub} (en : En) : ∀ (m : Nat) (es : Xs) (ks : List (Option Expr)) (vs : List Expr), xsLen es ≤ m → chkKv fns cons N cmp sc hot es ks vs = true →
    evXs call sub en es = kvF (kvFs call sub es) en ∧ ks.length = vs.length ∧ ks.all (·.isSome) = true ∧ (kvFs call sub es).length = ks.length := by
  intro m
  induction m with
  | zero =>
    intro es ks vs hm h
    cases es with
    | nil =>
      cases ks <;> cases vs <;> first
        | exact ⟨by unfold evXs; rfl, rfl, rfl, rfl⟩
        | (unfold chkKv at h; cases h)
    | cons x r => unfold xsLen at hm; omega
  | succ m ih =>
    intro es ks vs hm h
    unfold chkKv at h
    split at h
    · exact ⟨by unfold evXs; rfl, rfl, rfl, rfl⟩
    · rename_i k v r ke ks ve vs
      obtain ⟨_, h2⟩ := and2 h
      unfold xsLen xsLen at hm
      obtain ⟨e1, e2, e3, e4⟩ := ih r ks vs (by omega) h2
      refine ⟨?_, by rw [List.length_cons, List.length_cons, e2], by rw [List.all_cons, e3]; rfl, by unfold kvFs; rw [List.length_cons, List.length_cons, e4]⟩
      unfold evXs evXs kvFs kvF
      rw [e1]
    · cases h
/-- the block of a comprehension -/
theorem Cok.blk {Er : Addr → Str → Prop} {W : WX} {C : Cx} {sc : Scope} {N : List Str} (K : Cok T cons cmp n false Er W C sc N) (scope : Scope) (s : Shared) (H : Hp) (Cl : Addr) (cl : List (Str × Addr)) (fp : List Addr) :
    Cok T cons cmp n false Er (fun _ _ _ _ => False) (C.blk s H scope (compEnvC scope cl Cl C.env) fp) (relS scope sc) N :=
  ⟨by show relS scope C.env.scope = _; rw [K.es], K.eN, K.nd, K.un, K.calm, K.guards, K.room, K.sys, ⟨K.blt.no⟩, K.consG, K.fns, takes_none5, (fun z => by cases z), (fun z => by cases z)⟩
theorem noSet {fns : List Str} {N : List Str} {sc : Scope} {hot : Bool} {it : It} {e : Expr} (h : chkIt fns cons N cmp sc hot it e = true) (env : PySem.Env) (x : Value) : foldedSetIterable e env x = pure x := by
  cases e <;> first
    | rfl
    | skip
  exfalso
  cases it <;> (unfold chkIt at h; first | (cases h; done) | skip)
  rename_i a
  cases a <;> (unfold chkX at h; cases h)
theorem own_tg {N : List Str} {sc : Scope} {tg : List Nat} {t : Expr} (h : tgOk N sc tg t = true) : ((tgNames t).zip tg).map (·.2) = tg := by
  unfold tgOk at h
  split at h
  · rfl
  · rfl
  · cases h
theorem tg_tup {it : It} {t : Expr} (h : pairTg it t = true) (k : ∃ a, it = .enum a ∨ ∃ b, it = .zip a b) : ∃ l j p, t = .Tuple l j p := by
  obtain ⟨a, k | ⟨b, k⟩⟩ := k
  · subst k
    unfold pairTg at h
    cases t <;> first
      | exact ⟨_, _, _, rfl⟩
      | cases h
  · subst k
    unfold pairTg at h
    cases t <;> first
      | exact ⟨_, _, _, rfl⟩
      | cases h

abbrev fx (T : Tab) (n : Nat) (x : X) : En → Rs RV := fun en => evX (callN T n) T.sub en x
abbrev fxs (T : Tab) (n : Nat) (x : Xs) : En → Rs (List RV) := fun en => evXs (callN T n) T.sub en x
abbrev nmsT (T : Tab) : List Str := T.fns.map (·.name)
def GoodX (C : Cx) (Er : Addr → Str → Prop) (W : WX) (f : En → Rs RV) (e : Expr) (t : Bool) : Prop := PE C e (cX C Er W f) ∧ (t = true → PT C e (cT C Er W fun en => (f en).bind asBl))
theorem GoodX.val {C : Cx} {Er : Addr → Str → Prop} {W : WX} {f : En → Rs RV} {e : Expr} {t : Bool} (h : PE C e (cX C Er W f)) (he : ∀ whole, isTrue e C.env whole = (do let v ← whole; standAt e.pos; holding [v] (truthy v))) : GoodX C Er W f e t := ⟨h, fun _ => c_valT h he⟩
section
variable {Er : Addr → Str → Prop} {W : WX} {C : Cx} {sc : Scope} {N : List Str} {hot : Bool}
theorem wk_ok (K : Cok T cons cmp n hot Er W C sc N) (a : X) {e : Expr} (h : chkX (nmsT T) cons N cmp sc hot a e = true) (p : PE C e (cX C Er W (fx T n a))) : PE C e (tWk C Er W (isV a) fun en => (fx T n a en).bind (itR a)) := by
  have data : (∀ i, a ≠ .var i) → PE C e (tWk C Er W (isV a) fun en => (fx T n a en).bind (itR a)) := fun nv => by
    have e1 : isV a = fun _ => False := by
      cases a <;> first
        | rfl
        | exact absurd rfl (nv _)
    have e2 : itR a = fun r => (asVal r).bind fun _ => .ok r := by
      cases a <;> first
        | rfl
        | exact absurd rfl (nv _)
    rw [e1, e2]
    exact c_wk_data p
  cases a with
  | var i =>
    unfold chkX at h
    split at h
    · rename_i y q
      obtain ⟨h1, h2⟩ := and2 h
      obtain ⟨h3, h4⟩ := and2 h1
      have h5 := of_decide_eq_true h3
      have k := c_wk_var (C := C) (Er := Er) (W := W) (pos := q) (i := i) (n := y) (by rw [K.eN]; exact h5) (by rw [K.es]; exact vis_of h4) (dbg_of h2).1 (dbg_of h2).2
      have e3 : (fun en => (fx T n (.var i) en).bind (itR (.var i))) = fun (e : En) => (match e[i]? with
        | some (.val d) => Rs.ok (.val d)
        | some (.own d) => .ok (.bor d)
        | some (.lent d) => .ok (.bor d)
        | some (.bor d) => .ok (.bor d)
        | _ => .stuck : Rs RV).bind (itR (.var i)) := by
        funext en
        show (evX (callN T n) T.sub en (.var i)).bind _ = _
        unfold evX
        rfl
      rw [e3]
      exact k
    · cases h
  | _ => exact data (fun i z => by cases z)
end
end
end Ev
set_option Elab.async false
set_option linter.all false
set_option maxRecDepth 100000
set_option maxHeartbeats 8000000
set_option autoImplicit false
/-! The walk of every expression, as one. -/
namespace Ev
open PySem PySem.Spec PyProof.Rows L2

section
variable {T : Tab} {cons : List (Str × Int)} {cmp : List Str} {n : Nat}
mutual
theorem x_ok : ∀ (x : X) {Er : Addr → Str → Prop} {W : WX} {C : Cx} {sc : Scope} {N : List Str} {hot : Bool} {e : Expr}, Cok T cons cmp n hot Er W C sc N → chkX (nmsT T) cons N cmp sc hot x e = true → GoodX C Er W (fx T n x) e (noIfe x)
  | .cnon, Er, W, C, sc, N, hot, e, K, h => by
    unfold chkX at h
    split at h
    · exact .val c_none fun _ => rfl
    · cases h
  | .cbl b, Er, W, C, sc, N, hot, e, K, h => by
    unfold chkX at h
    split at h
    · have q := beq_iff_eq.mp h
      subst q
      exact .val c_bool fun _ => rfl
    · cases h
  | .cint i, Er, W, C, sc, N, hot, e, K, h => by
    unfold chkX at h
    split at h
    · have q := of_decide_eq_true h
      subst q
      exact .val c_int fun _ => rfl
    · cases h
  | .cstr i, Er, W, C, sc, N, hot, e, K, h => by
    unfold chkX at h
    split at h
    · have q := of_decide_eq_true h
      subst q
      exact .val c_str fun _ => rfl
    · cases h
  | .var i, Er, W, C, sc, N, hot, e, K, h => by
    unfold chkX at h
    split at h
    · rename_i y p
      obtain ⟨h1, h2⟩ := and2 h
      obtain ⟨h3, h4⟩ := and2 h1
      have h5 := of_decide_eq_true h3
      exact .val (c_var (by rw [K.eN]; exact h5) (by rw [K.es]; exact vis_of h4) (dbg_of h2).1 (dbg_of h2).2) fun _ => rfl
    · cases h
  | .tup es, Er, W, C, sc, N, hot, e, K, h => by
    unfold chkX at h
    split at h
    · rename_i l k p
      obtain ⟨h1, h2⟩ := and2 h
      have hl := of_decide_eq_true h1
      refine .val (c_tup (xs_ok es K h2) fun en rs q => ?_) fun _ => rfl
      rw [evXs_len es en rs q, ← chkXs_len es l h2]
      exact hl
    · cases h
  | .lst es, Er, W, C, sc, N, hot, e, K, h => by
    unfold chkX at h
    split at h
    · rename_i l p
      obtain ⟨h1, h2⟩ := and2 h
      have hl := of_decide_eq_true h1
      refine .val (c_lst (xs_ok es K h2) fun en rs q => ?_) fun _ => rfl
      rw [evXs_len es en rs q, ← chkXs_len es l h2]
      exact hl
    · cases h
  | .dct es, Er, W, C, sc, N, hot, e, K, h => by
    unfold chkX at h
    split at h
    · rename_i ks vs p
      obtain ⟨h1, h2⟩ := and2 h
      have hl := of_decide_eq_true h1
      have q := fun (en : En) => chkKv_ev (call := callN T n) (sub := T.sub) en (xsLen es) es ks vs (Nat.le_refl _) h2
      have g := c_dct (kv_ok es (pos := p) K h2) (q []).2.2.1 (q []).2.1 hl (q []).2.2.2
      have e1 : fx T n (.dct es) = fun en => (kvF (kvFs (callN T n) T.sub es) en).bind fun rs => (asVals rs).bind fun ds => (pairUp ds).bind fun l => .ok (.own (.dct (merge [] l))) := by
        funext en
        show evX (callN T n) T.sub en (.dct es) = _
        unfold evX
        rw [(q en).1]
      rw [e1]
      exact .val g fun _ => rfl
    · cases h
  | .bin o a b, Er, W, C, sc, N, hot, e, K, h => by
    unfold chkX at h
    split at h
    · obtain ⟨h1, h2⟩ := and2 h
      obtain ⟨h3, h4⟩ := and2 h1
      exact .val (c_bin h3 (x_ok a K h4).1 (x_ok b K h2).1) fun _ => rfl
    · cases h
  | .neg a, Er, W, C, sc, N, hot, e, K, h => by
    unfold chkX at h
    split at h
    · exact .val (c_neg (x_ok a K h).1) fun _ => rfl
    · cases h
  | .cmp o a b, Er, W, C, sc, N, hot, e, K, h => by
    unfold chkX at h
    split at h
    · obtain ⟨h1, h2⟩ := and2 h
      obtain ⟨h3, h4⟩ := and2 h1
      obtain ⟨h5, h6⟩ := and2 h3
      have h2 := (Bool.not_eq_true' _).mp h2
      exact ⟨c_cmp K.un h5 (x_ok a K h6).1 (x_ok b K h4).1 h2, fun _ => c_cmpT K.un h5 (x_ok a K h6).1 (x_ok b K h4).1 h2⟩
    · cases h
  | .and es, Er, W, C, sc, N, hot, e, K, h => by
    unfold chkX at h
    split at h
    · rename_i l p
      obtain ⟨h1, h2⟩ := and2 h
      obtain ⟨h3, h4⟩ := and2 h1
      have ne : l ≠ [] := fun z => by rw [z] at h4; cases h4
      obtain ⟨g1, g2⟩ := and_ok es (pos := p) K h3 h2 ne
      refine ⟨g1, fun _ => ?_⟩
      have e1 : (fun en => (fx T n (.and es) en).bind asBl) = fun en => evAnd (callN T n) T.sub en es := by
        funext en
        show (evX (callN T n) T.sub en (.and es)).bind asBl = _
        unfold evX
        exact bl_back _
      rw [e1]
      exact g2.pt
    · cases h
  | .or es, Er, W, C, sc, N, hot, e, K, h => by
    unfold chkX at h
    split at h
    · rename_i l p
      obtain ⟨h1, h2⟩ := and2 h
      obtain ⟨h3, h4⟩ := and2 h1
      have ne : l ≠ [] := fun z => by rw [z] at h4; cases h4
      obtain ⟨g1, g2⟩ := or_ok es (pos := p) K h3 h2 ne
      refine ⟨g1, fun _ => ?_⟩
      have e1 : (fun en => (fx T n (.or es) en).bind asBl) = fun en => evOr (callN T n) T.sub en es := by
        funext en
        show (evX (callN T n) T.sub en (.or es)).bind asBl = _
        unfold evX
        exact bl_back _
      rw [e1]
      exact g2.pt
    · cases h
  | .not a, Er, W, C, sc, N, hot, e, K, h => by
    unfold chkX at h
    split at h
    · obtain ⟨h1, h2⟩ := and2 h
      have g := x_ok a K h2
      exact ⟨c_not g.1, fun _ => c_notT (g.2 h1)⟩
    · cases h
  | .ife t a b, Er, W, C, sc, N, hot, e, K, h => by
    unfold chkX at h
    split at h
    · obtain ⟨h1, h2⟩ := and2 h
      obtain ⟨h3, h4⟩ := and2 h1
      obtain ⟨h5, h6⟩ := and2 h3
      exact ⟨c_ife ((x_ok t K h6).2 h5) (x_ok a K h4).1 (x_ok b K h2).1, fun z => by cases z⟩
    · cases h
  | .call f es, Er, W, C, sc, N, hot, e, K, h => by
    unfold chkX at h
    split at h
    · rename_i c l p
      obtain ⟨h1, h2⟩ := and2 h
      obtain ⟨h3, h4⟩ := and2 h1
      have hh := (Bool.not_eq_true' _).mp h3
      subst hh
      split at h4
      · rename_i nm hn
        rw [List.getElem?_map] at hn
        cases hf : T.fns[f]? with
        | none => rw [hf] at hn; cases hn
        | some fn =>
        rw [hf] at hn
        have hn : some fn.name = some nm := hn
        cases hn
        obtain ⟨q, e1, gl, hd⟩ := isNm_of h4
        subst e1
        cases l with
        | nil =>
          cases es with
          | nil => exact .val (c_call0 K hf gl hd) fun _ => rfl
          | cons x r => unfold chkXs at h2; cases h2
        | cons e0 l => exact .val (c_call K hf gl hd (xs_ok es K h2) (chkXs_star es _ h2) (fun z => by cases z)) fun _ => rfl
      · cases h4
    · cases h
  | .bfn b es, Er, W, C, sc, N, hot, e, K, h => by
    unfold chkX at h
    split at h
    · rename_i c l p
      obtain ⟨h1, h2⟩ := and2 h
      obtain ⟨h3, h4⟩ := and2 h1
      obtain ⟨h5, h6⟩ := and2 h3
      have hh := (Bool.not_eq_true' _).mp h5
      subst hh
      obtain ⟨q, e1, gl, hd⟩ := isNm_of h6
      subst e1
      have hl := of_decide_eq_true h4
      cases l with
      | nil => exfalso; cases b <;> cases hl
      | cons e0 l => exact .val (c_bfn (K.calm rfl) (K.guards rfl) K.un K.sys K.blt (gl_of K gl) (xs_ok es K h2) (chkXs_star es _ h2)) fun _ => rfl
    · cases h
  | .isi a ts, Er, W, C, sc, N, hot, e, K, h => by
    unfold chkX at h
    split at h
    · rename_i c d t p
      obtain ⟨h1, h2⟩ := and2 h
      obtain ⟨h3, h4⟩ := and2 h1
      obtain ⟨q, e1, gl, hd⟩ := isNm_of h3
      subst e1
      have g := (x_ok a K h4).1
      have one : tysOk sc ts [t] = true → GoodX C Er W (fx T n (.isi a ts)) (.Call (.Name "isinstance" q) [d, t] [] p) (noIfe (.isi a ts)) := fun h2 => by
        cases ts with
        | nil => unfold tysOk at h2; cases h2
        | cons t0 ts =>
          unfold tysOk at h2
          obtain ⟨h5, h6⟩ := and2 h2
          cases ts with
          | cons t1 ts => unfold tysOk at h6; cases h6
          | nil =>
            obtain ⟨q2, e2, gl2, _⟩ := isNm_of h5
            subst e2
            exact .val (c_isi1 K.blt (gl_of K gl) (gl_of K gl2) g (star_of h4)) fun _ => rfl
      split at h2
      · rename_i l k r
        obtain ⟨hl, h2⟩ := and2 h2
        have hl := of_decide_eq_true hl
        have ns : ∀ e, e ∈ l → noStar e = true := by
          have z : ∀ (ts : List Ty) (l : List Expr), tysOk sc ts l = true → ∀ e, e ∈ l → noStar e = true := by
            intro ts
            induction ts with
            | nil => intro l h e he; cases l with | nil => cases he | cons => unfold tysOk at h; cases h
            | cons t ts ih =>
              intro l h e he
              cases l with
              | nil => cases he
              | cons e1 l =>
                unfold tysOk at h
                obtain ⟨h5, h6⟩ := and2 h
                rcases List.mem_cons.mp he with e2 | he
                · obtain ⟨_, e3, _⟩ := isNm_of h5
                  rw [e2, e3]
                  rfl
                · exact ih l h6 e he
          exact z ts l h2
        exact .val (c_isiT K.blt (gl_of K gl) g (star_of h4) hl (pa_tys K.blt ns (by rw [K.es]; exact h2) fun x hx => gl_of K (by rw [K.es] at hx; exact hx))) fun _ => rfl
      · exact one h2
    · cases h
  | .sub a i, Er, W, C, sc, N, hot, e, K, h => by
    unfold chkX at h
    split at h
    · obtain ⟨h1, h2⟩ := and2 h
      obtain ⟨h3, h4⟩ := and2 h1
      exact .val (c_sub K.un (x_ok a K h4).1 (x_ok i K h2).1 h3) fun _ => rfl
    · cases h
  | .slc a lo hi, Er, W, C, sc, N, hot, e, K, h => by
    unfold chkX at h
    split at h
    · rename_i c l u p2 p
      obtain ⟨h1, h2⟩ := and2 h
      obtain ⟨h3, h4⟩ := and2 h1
      have part : ∀ (o : Option Expr) (x : X), (∀ e, chkX (nmsT T) cons N cmp sc hot x e = true → GoodX C Er W (fx T n x) e (noIfe x)) → (match o with | none => isNone x | some z => !isNone x && chkX (nmsT T) cons N cmp sc hot x z) = true →
          PO C o (cO C Er W fun en => if isNone x = true then .ok none else (fx T n x en).bind bound) := by
        intro o x ih hx
        cases o with
        | none =>
          have e1 : (fun (en : En) => if isNone x = true then Rs.ok none else (fx T n x en).bind bound) = fun (_ : En) => (Rs.ok none : Rs (Option Int)) := by
            funext en
            rw [if_pos hx]
          rw [e1]
          exact c_no
        | some z =>
          obtain ⟨g1, g2⟩ := and2 hx
          have e1 : (fun (en : En) => if isNone x = true then Rs.ok none else (fx T n x en).bind bound) = fun (en : En) => (fx T n x en).bind bound := by
            funext en
            rw [if_neg (by rw [(Bool.not_eq_true' _).mp g1]; exact Bool.false_ne_true)]
          rw [e1]
          exact c_part (ih z g2).1
      exact .val (c_slc (x_ok a K h3).1 (part l lo (fun e he => x_ok lo K he) h4) (part u hi (fun e he => x_ok hi K he) h2)) fun _ => rfl
    · cases h
  | .mth m a es, Er, W, C, sc, N, hot, e, K, h => by
    unfold chkX at h
    split at h
    · rename_i c nm ap l p
      obtain ⟨h1, h2⟩ := and2 h
      obtain ⟨h3, h4⟩ := and2 h1
      obtain ⟨h5, h6⟩ := and2 h3
      obtain ⟨h7, h8⟩ := and2 h5
      obtain ⟨h9, h10⟩ := and2 h7
      obtain ⟨h11, h12⟩ := and2 h9
      have en := of_decide_eq_true h12
      subst en
      have hl := of_decide_eq_true h6
      have g := (x_ok a K h4).1
      cases m <;> first
        | (cases h11; done)
        | skip
      case join =>
        match l, es, h2, hl with
        | [y], .cons x .nil, h2, _ =>
          unfold chkXs at h2
          obtain ⟨k1, _⟩ := and2 h2
          exact .val (c_join g (x_ok x K k1).1 h10 (star_of k1) h8) fun _ => rfl
        | [y], .nil, h2, _ => unfold chkXs at h2; cases h2
        | [y], .cons x (.cons _ _), h2, _ => unfold chkXs at h2; unfold chkXs at h2; obtain ⟨_, k⟩ := and2 h2; cases k
      case get1 =>
        match l, es, h2, hl with
        | [y], .cons x .nil, h2, _ =>
          unfold chkXs at h2
          obtain ⟨k1, _⟩ := and2 h2
          exact .val (c_get1 K.un g (x_ok x K k1).1 h10 (star_of k1) h8) fun _ => rfl
        | [y], .nil, h2, _ => unfold chkXs at h2; cases h2
        | [y], .cons x (.cons _ _), h2, _ => unfold chkXs at h2; unfold chkXs at h2; obtain ⟨_, k⟩ := and2 h2; cases k
      case get2 =>
        match l, es, h2, hl with
        | [y, z], .cons x (.cons w .nil), h2, _ =>
          unfold chkXs at h2
          unfold chkXs at h2
          obtain ⟨k1, k2⟩ := and2 h2
          obtain ⟨k3, _⟩ := and2 k2
          exact .val (c_get2 K.un g (x_ok x K k1).1 (x_ok w K k3).1 h10 (star_of k1) (star_of k3) h8) fun _ => rfl
        | [y, z], .nil, h2, _ => unfold chkXs at h2; cases h2
        | [y, z], .cons x .nil, h2, _ => unfold chkXs at h2; unfold chkXs at h2; obtain ⟨_, k⟩ := and2 h2; cases k
        | [y, z], .cons x (.cons _ (.cons _ _)), h2, _ => unfold chkXs at h2; unfold chkXs at h2; unfold chkXs at h2; obtain ⟨_, k⟩ := and2 h2; obtain ⟨_, k⟩ := and2 k; cases k
    · cases h
  | .litems a, Er, W, C, sc, N, hot, e, K, h => by
    unfold chkX at h
    split at h
    · cases h
    · cases h
  | .isE i c, Er, W, C, sc, N, hot, e, K, h => by
    unfold chkX at h
    split at h
    · rename_i f d t p
      obtain ⟨hz, hiz⟩ := and2 h
      obtain ⟨h1, h2⟩ := and2 hz
      obtain ⟨h3, h4⟩ := and2 h1
      obtain ⟨h5, h6⟩ := and2 h3
      obtain ⟨q, e1, gl, _⟩ := isNm_of h6
      obtain ⟨q2, e2, gl2, hdb⟩ := isNm_of h2
      subst e1 e2 h5
      unfold slotV at h4
      split at h4
      · rename_i y r
        obtain ⟨h7, h8⟩ := and2 h4
        obtain ⟨h9, h10⟩ := and2 h7
        exact .val (K.isE rfl i c y q r q2 p (of_decide_eq_true h9) (vis_of h10) (dbg_of h8).1 (dbg_of h8).2 (gl_of K gl) (gl_of K gl2) hdb (of_decide_eq_true hiz)) fun _ => rfl
      · cases h4
    · cases h
  | .isEs i cs, Er, W, C, sc, N, hot, e, K, h => by
    unfold chkX at h
    split at h
    · rename_i f d l k q0 p
      obtain ⟨hy, hiz⟩ := and2 h
      obtain ⟨hz, hln⟩ := and2 hy
      obtain ⟨h1, h2⟩ := and2 hz
      obtain ⟨h3, h4⟩ := and2 h1
      obtain ⟨h5, h6⟩ := and2 h3
      obtain ⟨q, e1, gl, _⟩ := isNm_of h6
      subst e1 h5
      unfold slotV at h4
      split at h4
      · rename_i y r
        obtain ⟨h7, h8⟩ := and2 h4
        obtain ⟨h9, h10⟩ := and2 h7
        exact .val (K.isEs rfl i cs y l k q r q0 p (of_decide_eq_true h9) (vis_of h10) (dbg_of h8).1 (dbg_of h8).2 (gl_of K gl) h2 (of_decide_eq_true hln) fun c hc => of_decide_eq_true (List.all_eq_true.mp hiz c hc)) fun _ => rfl
      · cases h4
    · cases h
  | .glob x i, Er, W, C, sc, N, hot, e, K, h => by
    unfold chkX at h
    split at h
    · rename_i y p
      obtain ⟨h1, h2⟩ := and2 h
      obtain ⟨h3, h4⟩ := and2 h1
      obtain ⟨h5, h6⟩ := and2 h3
      have e1 := of_decide_eq_true h5
      subst e1
      obtain ⟨t, ht⟩ := K.consG x i (of_decide_eq_true h2)
      exact .val (c_glob (gl_of K h6) ht (dbg_of h4).1) fun _ => rfl
    · cases h
  | .comp elt tg it cond, Er, W, C, sc, N, hot, e, K, h => by
    unfold chkX at h
    split at h
    · rename_i x t i cs scope p
      obtain ⟨h1, h2⟩ := and2 h
      obtain ⟨h3, h4⟩ := and2 h1
      obtain ⟨h5, h6⟩ := and2 h3
      obtain ⟨h7, h8⟩ := and2 h5
      obtain ⟨h9, h10⟩ := and2 h7
      obtain ⟨h11, h12⟩ := and2 h9
      obtain ⟨h13, h14⟩ := and2 h11
      have hh := (Bool.not_eq_true' _).mp h13
      subst hh
      have bo := blkOk_by h14
      have KB := K.blk scope
      have g := c_comp (cs := cs) (elt := x) (pos := p) (W' := fun _ _ _ _ => False) (fc := fx T n cond) (fe := fx T n elt) (K.calm rfl) (by rw [K.eN]; exact K.nd) (it_ok it K h6 h8) (by rw [K.eN, K.es]; exact bo) (own_tg h12) (fun s H Cl cl fp => by
          have k := KB s H Cl cl fp
          refine pg_tg (k.calm rfl) (by rw [k.eN]; exact k.nd) k.eN k.es (fun y hy => ?_) h12
          have z := List.all_eq_true.mp h10 y hy
          unfold locB at z
          split at z
          · rename_i e1
            refine .inr ?_
            rw [k.es]
            exact lookup_relS_keep (by intro q; cases q) e1
          · rename_i e1
            refine .inl ?_
            show (scope.names.lookup y == some .cell) = true
            rw [e1]
            rfl
          · cases z) (fun s H Cl cl fp => ?_) (fun s H Cl cl fp => (x_ok elt (KB s H Cl cl fp) h4).1) (noSet h6 _)
      · have e1 : fx T n (.comp elt tg it cond) = fun e => (evIt (callN T n) T.sub e it).bind fun its => if its.length ≤ lim then (compL (one tg (fx T n cond) (fx T n elt) e) its).bind fun l => Rs.ok (RV.own (D.lst l)) else Rs.stuck := by
          funext en
          show evX (callN T n) T.sub en (.comp elt tg it cond) = _
          unfold evX
          rfl
        rw [e1]
        exact .val g fun _ => rfl
      · have k := KB s H Cl cl fp
        split at h2
        · split at h2
          · exact pts_case fun σ H2 Q ⟨O, e, R, hp⟩ => ⟨_, pts_nil, hp H2 (.refl H2)⟩
          · cases h2
        · obtain ⟨k1, k2⟩ := and2 h2
          exact pts_one ((x_ok cond k k2).2 k1)
        · cases h2
    · cases h
theorem xs_ok : ∀ (es : Xs) {Er : Addr → Str → Prop} {W : WX} {C : Cx} {sc : Scope} {N : List Str} {hot : Bool} {l : List Expr}, Cok T cons cmp n hot Er W C sc N → chkXs (nmsT T) cons N cmp sc hot es l = true → PA C l (cXs C Er W (fxs T n es))
  | .nil, Er, W, C, sc, N, hot, l, K, h => by
    cases l with
    | nil => exact c_nil
    | cons => unfold chkXs at h; cases h
  | .cons x r, Er, W, C, sc, N, hot, l, K, h => by
    cases l with
    | nil => unfold chkXs at h; cases h
    | cons e l =>
      unfold chkXs at h
      obtain ⟨h1, h2⟩ := and2 h
      exact c_cons (x_ok x K h1).1 (xs_ok r K h2) (star_of h1)
theorem and_ok : ∀ (es : Xs) {Er : Addr → Str → Prop} {W : WX} {C : Cx} {sc : Scope} {N : List Str} {hot : Bool} {l : List Expr} {pos : Pos}, Cok T cons cmp n hot Er W C sc N → chkXs (nmsT T) cons N cmp sc hot es l = true → noIfes es = true → l ≠ [] →
    PE C (.BoolOp .And l pos) (cX C Er W fun en => (evAnd (callN T n) T.sub en es).bind fun b => .ok (.val (.bl b))) ∧ PW C (.BoolOp .And l pos) (cT C Er W fun en => evAnd (callN T n) T.sub en es)
  | .nil, Er, W, C, sc, N, hot, l, pos, K, h, ni, ne => by
    cases l with
    | nil => exact absurd rfl ne
    | cons => unfold chkXs at h; cases h
  | .cons x r, Er, W, C, sc, N, hot, l, pos, K, h, ni, ne => by
    cases l with
    | nil => exact absurd rfl ne
    | cons e l =>
      unfold chkXs at h
      obtain ⟨h1, h2⟩ := and2 h
      unfold noIfes at ni
      obtain ⟨n1, n2⟩ := and2 ni
      have g := x_ok x K h1
      cases l with
      | nil =>
        cases r with
        | cons => unfold chkXs at h2; cases h2
        | nil => exact ⟨c_and1 g.1, c_andT1 (g.2 n1)⟩
      | cons e2 l =>
        have ih := and_ok r (pos := pos) K h2 n2 (fun z => by cases z)
        exact ⟨c_and g.1 ih.1, c_andT (g.2 n1) ih.2⟩
theorem or_ok : ∀ (es : Xs) {Er : Addr → Str → Prop} {W : WX} {C : Cx} {sc : Scope} {N : List Str} {hot : Bool} {l : List Expr} {pos : Pos}, Cok T cons cmp n hot Er W C sc N → chkXs (nmsT T) cons N cmp sc hot es l = true → noIfes es = true → l ≠ [] →
    PE C (.BoolOp .Or l pos) (cX C Er W fun en => (evOr (callN T n) T.sub en es).bind fun b => .ok (.val (.bl b))) ∧ PW C (.BoolOp .Or l pos) (cT C Er W fun en => evOr (callN T n) T.sub en es)
  | .nil, Er, W, C, sc, N, hot, l, pos, K, h, ni, ne => by
    cases l with
    | nil => exact absurd rfl ne
    | cons => unfold chkXs at h; cases h
  | .cons x r, Er, W, C, sc, N, hot, l, pos, K, h, ni, ne => by
    cases l with
    | nil => exact absurd rfl ne
    | cons e l =>
      unfold chkXs at h
      obtain ⟨h1, h2⟩ := and2 h
      unfold noIfes at ni
      obtain ⟨n1, n2⟩ := and2 ni
      have g := x_ok x K h1
      cases l with
      | nil =>
        cases r with
        | cons => unfold chkXs at h2; cases h2
        | nil => exact ⟨c_and1 g.1, c_orT1 (g.2 n1)⟩
      | cons e2 l =>
        have ih := or_ok r (pos := pos) K h2 n2 (fun z => by cases z)
        exact ⟨c_or g.1 ih.1, c_orT (g.2 n1) ih.2⟩
theorem kv_ok : ∀ (es : Xs) {Er : Addr → Str → Prop} {W : WX} {C : Cx} {sc : Scope} {N : List Str} {hot : Bool} {ks : List (Option Expr)} {vs : List Expr} {pos : Pos}, Cok T cons cmp n hot Er W C sc N → chkKv (nmsT T) cons N cmp sc hot es ks vs = true →
    PPs C pos ks vs ((kvFs (callN T n) T.sub es).map fun f => (cX C Er W f.1, cX C Er W f.2))
  | .nil, Er, W, C, sc, N, hot, ks, vs, pos, K, h => by
    unfold chkKv at h
    split at h
    · exact pps_nil
    · rename_i q; cases q
    · cases h
  | .cons k .nil, Er, W, C, sc, N, hot, ks, vs, pos, K, h => by
    unfold chkKv at h
    cases ks <;> cases vs <;> cases h
  | .cons k (.cons v r), Er, W, C, sc, N, hot, ks, vs, pos, K, h => by
    cases ks with
    | nil => cases vs <;> (unfold chkKv at h; cases h)
    | cons o ks =>
      cases vs with
      | nil => cases o <;> (unfold chkKv at h; cases h)
      | cons ve vs =>
        cases o with
        | none => unfold chkKv at h; cases h
        | some ke =>
          unfold chkKv at h
          obtain ⟨h1, h2⟩ := and2 h
          obtain ⟨h3, h4⟩ := and2 h1
          exact pps_cons (x_ok k K h3).1 (x_ok v K h4).1 (kv_ok r K h2)
theorem it_ok : ∀ (it : It) {Er : Addr → Str → Prop} {W : WX} {C : Cx} {sc : Scope} {N : List Str} {e t : Expr}, Cok T cons cmp n false Er W C sc N → chkIt (nmsT T) cons N cmp sc false it e = true → pairTg it t = true →
    PI C t e (cI C Er W (itVars it) fun en => evIt (callN T n) T.sub en it)
  | .ex a, Er, W, C, sc, N, e, t, K, h, pt => by
    unfold chkIt at h
    exact ci_ex (wk_ok K a h (x_ok a K h).1)
  | .range a, Er, W, C, sc, N, e, t, K, h, pt => by
    unfold chkIt at h
    split at h
    · obtain ⟨h1, h2⟩ := and2 h
      obtain ⟨q, e1, gl, _⟩ := isNm_of h1
      subst e1
      exact ci_range K.blt (gl_of K gl) (x_ok a K h2).1 (star_of h2)
    · cases h
  | .enum a, Er, W, C, sc, N, e, t, K, h, pt => by
    unfold chkIt at h
    split at h
    · obtain ⟨h1, h2⟩ := and2 h
      obtain ⟨q, e1, gl, _⟩ := isNm_of h1
      subst e1
      obtain ⟨l, j, p2, e2⟩ := tg_tup pt ⟨a, .inl rfl⟩
      subst e2
      exact ci_enum K.blt (gl_of K gl) (wk_ok K a h2 (x_ok a K h2).1) (star_of h2)
    · cases h
  | .zip a b, Er, W, C, sc, N, e, t, K, h, pt => by
    unfold chkIt at h
    split at h
    · obtain ⟨h1, h2⟩ := and2 h
      obtain ⟨h3, h4⟩ := and2 h1
      obtain ⟨q, e1, gl, _⟩ := isNm_of h3
      subst e1
      obtain ⟨l, j, p2, e2⟩ := tg_tup pt ⟨a, .inr ⟨b, rfl⟩⟩
      subst e2
      exact ci_zip K.blt (gl_of K gl) (wk_ok K a h4 (x_ok a K h4).1) (wk_ok K b h2 (x_ok b K h2).1) (star_of h4) (star_of h2)
    · cases h
  | .rev a, Er, W, C, sc, N, e, t, K, h, pt => by
    unfold chkIt at h
    split at h
    · obtain ⟨h1, h2⟩ := and2 h
      obtain ⟨q, e1, gl, _⟩ := isNm_of h1
      subst e1
      exact ci_rev K.blt (gl_of K gl) (wk_ok K a h2 (x_ok a K h2).1) (star_of h2)
    · cases h
end
end
end Ev
set_option Elab.async false
set_option linter.all false
set_option maxRecDepth 100000
set_option maxHeartbeats 4000000
set_option autoImplicit false
/-! What a statement leaves of a def's names. -/
namespace Ev
open PySem PySem.Spec PyProof.Rows L2

/-- addresses a statement may write to -/
def OwS (e : En) (σ : L2.St) : Addr → Prop := fun b => ∃ (i : Nat) (d : D), e[i]? = some (.own d) ∧ σ[i]? = some (some (.ref b))
structure Stp (e : En) (σ : L2.St) (H : Hp) (e' : En) (σ' : L2.St) (H' : Hp) : Prop where
  kept : ∀ b o, H b = some o → ¬ OwS e σ b → H' b = some o
  grow : ∀ b, OwS e' σ' b → OwS e σ b ∨ H b = none
  lent : ∀ (i : Nat) (d : D), e'[i]? = some (.lent d) → e[i]? = some (.lent d) ∧ σ'[i]? = σ[i]?
  err : ∀ (i : Nat) (c : Str), e'[i]? = some (.err c) → e[i]? = some (.err c)
section
variable {e e1 e2 : En} {σ σ1 σ2 : L2.St} {H H1 H2 : Hp}
theorem Stp.refl : Stp e σ H e σ H := ⟨fun _ _ h _ => h, fun _ h => .inl h, fun _ _ h => ⟨h, rfl⟩, fun _ _ h => h⟩
theorem Stp.same (s : Same H H1) : Stp e σ H e σ H1 := ⟨fun _ _ h _ => s _ _ h, fun _ h => .inl h, fun _ _ h => ⟨h, rfl⟩, fun _ _ h => h⟩
theorem Stp.trans (a : Stp e σ H e1 σ1 H1) (b : Stp e1 σ1 H1 e2 σ2 H2) : Stp e σ H e2 σ2 H2 := by
  refine ⟨fun c o h n => b.kept c o (a.kept c o h n) fun z => ?_, fun c z => ?_, fun i d z => ?_, fun i d z => a.err i d (b.err i d z)⟩
  · rcases a.grow c z with z | z
    · exact n z
    · rw [h] at z; cases z
  · by_cases q : OwS e σ c
    · exact .inl q
    · rcases b.grow c z with z | z
      · exact a.grow c z
      · refine .inr ?_
        cases hc : H c with
        | none => rfl
        | some o => rw [a.kept c o hc q] at z; cases z
  · obtain ⟨z1, z2⟩ := b.lent i d z
    obtain ⟨z3, z4⟩ := a.lent i d z1
    exact ⟨z3, z2.trans z4⟩
end
section
variable {K : PySem.W.Frag} {Er : Addr → Str → Prop} {O0 : Addr → Prop} {H0 H H1 : Hp} {e e' : En} {σ σ' : L2.St}
theorem OwS.ow {b : Addr} (h : OwS e σ b) : Ow O0 e σ b := by
  obtain ⟨i, d, h1, h2⟩ := h
  exact .inr ⟨i, _, h1, rfl, h2⟩
theorem Stp.tr (S : Stp e σ H e' σ' H1) : Tr (Ow O0 e σ) (Ow O0 e' σ') H H1 := fun a u _ n r => by
  have ns : ¬ OwS e σ a := fun z => n z.ow
  refine ⟨fun z => ?_, ?_⟩
  · rcases z with z | ⟨i, c, z1, z2, z3⟩
    · exact n (.inl z)
    · cases c with
      | own d =>
        rcases S.grow a ⟨i, d, z1, z3⟩ with z | z
        · exact ns z
        · exact rd_there r z
      | lent d =>
        obtain ⟨q1, q2⟩ := S.lent i d z1
        exact n (.inr ⟨i, _, q1, rfl, by rw [← q2]; exact z3⟩)
      | no => cases z2
      | val d => cases z2
      | bor d => cases z2
      | err d => cases z2
  · rcases r with r | ⟨o, r⟩
    · exact .inl (S.kept _ _ r ns)
    · exact .inr ⟨o, S.kept _ _ r ns⟩
/-- one slot anew, the heap with it -/
theorem Rel.put (R : Rel K Er O0 H0 e σ H) {i : Nat} {c : Cel} {w : Option V} (same : Same H0 H1) (t : Tr (Ow O0 e σ) (Ow O0 (e.set i c) (σ.set i w)) H H1)
    (k : ∀ j cj b, j ≠ i → e[j]? = some cj → cj.mine = true → σ[j]? = some (some (.ref b)) → ∀ o, H b = some o → H1 b = some o)
    (hs : SlotOk K Er (Ow O0 (e.set i c) (σ.set i w)) H0 H1 c w)
    (hd : c.mine = true → ∀ j cj b, j ≠ i → e[j]? = some cj → cj.mine = true → σ[j]? = some (some (.ref b)) → w ≠ some (.ref b)) : Rel K Er O0 H0 (e.set i c) (σ.set i w) H1 := by
  have at_i : ∀ j x, (e.set i c)[j]? = some x → (j = i ∧ x = c ∧ (σ.set i w)[j]? = some w) ∨ (j ≠ i ∧ e[j]? = some x ∧ (σ.set i w)[j]? = σ[j]?) := fun j x h => by
    by_cases q : i = j
    · subst q
      by_cases hi : i < e.length
      · rw [List.getElem?_set_self hi] at h
        cases h
        exact .inl ⟨rfl, rfl, List.getElem?_set_self (by rw [← R.len]; exact hi)⟩
      · rw [List.getElem?_eq_none (by rw [List.length_set]; omega)] at h
        cases h
    · rw [List.getElem?_set_ne q] at h
      exact .inr ⟨fun z => q z.symm, h, List.getElem?_set_ne q⟩
  refine ⟨same, R.od, by rw [List.length_set, List.length_set]; exact R.len, fun j x h => ?_, fun j j' x x' a h h' m m' s s' => ?_⟩
  · rcases at_i j x h with ⟨e1, e2, e3⟩ | ⟨ne, e2, e3⟩
    · rw [e3, e2]
      exact hs
    · rw [e3]
      have q := R.slot j x e2
      cases x with
      | no => exact True.intro
      | val d => obtain ⟨v, e4, a⟩ := q; exact ⟨v, e4, At.tr t _ _ a⟩
      | own d => obtain ⟨a, e4, n, o⟩ := q; exact ⟨a, e4, n, o.tr t fun u z => k j _ a ne e2 rfl (join_some e4) u z⟩
      | lent d => obtain ⟨a, e4, n, o⟩ := q; exact ⟨a, e4, n, o.tr t fun u z => k j _ a ne e2 rfl (join_some e4) u z⟩
      | bor d =>
        obtain ⟨a, e4, b⟩ := q
        exact ⟨a, e4, b.tr (fun x u p n r => ⟨fun z => (t x u p n (rd_same R.same r)).1 z, r⟩) fun _ _ r => r⟩
      | err d => exact q
  · rcases at_i j x h with ⟨e1, e2, e3⟩ | ⟨ne, e2, e3⟩ <;> rcases at_i j' x' h' with ⟨f1, f2, f3⟩ | ⟨nf, f2, f3⟩
    · rw [e1, f1]
    · rw [e3] at s
      rw [f3] at s'
      exact absurd (Option.some.inj s) (hd (by rw [← e2]; exact m) j' x' a nf f2 m' s')
    · rw [e3] at s
      rw [f3] at s'
      exact absurd (Option.some.inj s') (hd (by rw [← f2]; exact m') j x a ne e2 m s)
    · rw [e3] at s
      rw [f3] at s'
      exact R.dis j j' x x' a e2 f2 m m' s s'
theorem ow_set {i : Nat} {c : Cel} {w : Option V} {b : Addr} (h : Ow O0 (e.set i c) (σ.set i w) b) : Ow O0 e σ b ∨ (c.mine = true ∧ w = some (.ref b)) := by
  rcases h with h | ⟨j, x, h1, h2, h3⟩
  · exact .inl (.inl h)
  · by_cases q : i = j
    · subst q
      by_cases hi : i < e.length
      · rw [List.getElem?_set_self hi] at h1
        cases h1
        by_cases hj : i < σ.length
        · rw [List.getElem?_set_self hj] at h3
          exact .inr ⟨h2, Option.some.inj h3⟩
        · rw [List.getElem?_eq_none (by rw [List.length_set]; omega)] at h3
          cases h3
      · rw [List.getElem?_eq_none (by rw [List.length_set]; omega)] at h1
        cases h1
    · rw [List.getElem?_set_ne q] at h1 h3
      exact .inl (.inr ⟨j, x, h1, h2, h3⟩)
theorem ows_set {i : Nat} {c : Cel} {w : Option V} {b : Addr} (h : OwS (e.set i c) (σ.set i w) b) : OwS e σ b ∨ ((∃ d, c = .own d) ∧ w = some (.ref b)) := by
  obtain ⟨j, d, h1, h3⟩ := h
  by_cases q : i = j
  · subst q
    by_cases hi : i < e.length
    · rw [List.getElem?_set_self hi] at h1
      cases h1
      by_cases hj : i < σ.length
      · rw [List.getElem?_set_self hj] at h3
        exact .inr ⟨⟨d, rfl⟩, Option.some.inj h3⟩
      · rw [List.getElem?_eq_none (by rw [List.length_set]; omega)] at h3
        cases h3
    · rw [List.getElem?_eq_none (by rw [List.length_set]; omega)] at h1
      cases h1
  · rw [List.getElem?_set_ne q] at h1 h3
    exact .inl ⟨j, d, h1, h3⟩
/-- a step that sets one slot to no lent thing, no error -/
theorem Stp.put {i : Nat} {c : Cel} {w : Option V} (hl : ∀ d, c ≠ .lent d) (he : ∀ d, c ≠ .err d) (k : ∀ b o, H b = some o → ¬ OwS e σ b → H1 b = some o) (g : ∀ d b, c = .own d → w = some (.ref b) → OwS e σ b ∨ H b = none) : Stp e σ H (e.set i c) (σ.set i w) H1 := by
  have at_j : ∀ j x, (e.set i c)[j]? = some x → x = c ∨ (j ≠ i ∧ e[j]? = some x) := fun j x h => by
    by_cases q : i = j
    · subst q
      by_cases hi : i < e.length
      · rw [List.getElem?_set_self hi] at h
        cases h
        exact .inl rfl
      · rw [List.getElem?_eq_none (by rw [List.length_set]; omega)] at h
        cases h
    · rw [List.getElem?_set_ne q] at h
      exact .inr ⟨fun z => q z.symm, h⟩
  refine ⟨k, fun b h => ?_, fun j d h => ?_, fun j d h => ?_⟩
  · rcases ows_set h with h | ⟨⟨d, h1⟩, h2⟩
    · exact .inl h
    · exact g d b h1 h2
  · rcases at_j j _ h with z | ⟨ne, z⟩
    · exact absurd z.symm (hl d)
    · exact ⟨z, List.getElem?_set_ne (fun q => ne q.symm)⟩
  · rcases at_j j _ h with z | ⟨ne, z⟩
    · exact absurd z.symm (he d)
    · exact z
/-- a slot is given what an expression gave -/
theorem Rel.give (R : Rel K Er O0 H0 e σ H) (s : Same H H1) {i : Nat} {r : RV} {v : V} {c : Cel} (a : ResOk K (Ow O0 e σ) H H1 r v) (g : giveS r = .ok c) :
    Rel K Er O0 H0 (e.set i c) (σ.set i (some v)) H1 ∧ Stp e σ H (e.set i c) (σ.set i (some v)) H1 := by
  cases r with
  | bor d => cases g
  | val d =>
    cases g
    have t : Tr (Ow O0 e σ) (Ow O0 (e.set i (.val d)) (σ.set i (some v))) H1 H1 := Tr.less fun b z => (ow_set z).elim (fun z => z) fun z => by cases z.1
    refine ⟨R.put (R.same.trans s) ((Tr.same s).trans t) (fun j cj b _ _ _ _ o h => s _ _ h) ⟨v, rfl, At.tr t _ _ a⟩ (fun z => by cases z), .put (fun _ z => by cases z) (fun _ z => by cases z) (fun b o h _ => s _ _ h) (fun d b z => by cases z)⟩
  | own d =>
    cases g
    obtain ⟨b, ev, nb, ow⟩ := a
    subst ev
    have t : Tr (Ow O0 e σ) (Ow O0 (e.set i (.own d)) (σ.set i (some (.ref b)))) H H := Tr.grow fun x z => (ow_set z).elim .inl fun z => .inr (by
      have q : b = x := V.ref.inj (Option.some.inj z.2)
      rw [← q]
      exact nb)
    have n0 : H0 b = none := R.same.free nb
    refine ⟨R.put (R.same.trans s) (t.trans (.same s)) (fun j cj b _ _ _ _ o h => s _ _ h) ⟨b, rfl, n0, ow.tr (Tr.less fun x z => (ow_set z).elim .inl fun z => .inr (V.ref.inj (Option.some.inj z.2)).symm) fun _ z => z⟩ (fun _ j cj x ne h1 h2 h3 z => ?_),
      .put (fun _ z => by cases z) (fun _ z => by cases z) (fun b o h _ => s _ _ h) (fun d' x z1 z2 => .inr (by
        have q : b = x := V.ref.inj (Option.some.inj z2)
        rw [← q]
        exact nb))⟩
    have q : b = x := V.ref.inj (Option.some.inj z)
    obtain ⟨a', d', e1, _, o⟩ := R.mine h1 h2
    rw [h3] at e1
    cases e1
    obtain ⟨u, o⟩ := o.there
    rw [← q, nb] at o
    cases o
theorem Rel.drop (R : Rel K Er O0 H0 e σ H) (i : Nat) (w : Option V) : Rel K Er O0 H0 (e.set i .no) (σ.set i w) H ∧ Stp e σ H (e.set i .no) (σ.set i w) H := by
  have t : Tr (Ow O0 e σ) (Ow O0 (e.set i .no) (σ.set i w)) H H := Tr.less fun b z => (ow_set z).elim (fun z => z) fun z => by cases z.1
  exact ⟨R.put R.same t (fun j cj b _ _ _ _ o h => h) True.intro (fun z => by cases z), .put (fun _ z => by cases z) (fun _ z => by cases z) (fun b o h _ => h) (fun d b z => by cases z)⟩
theorem Rel.set1 (R : Rel K Er O0 H0 e σ H) {i : Nat} (h : Set1 (Ow O0 e σ) H i e σ e' σ') : Rel K Er O0 H0 e' σ' H ∧ Stp e σ H e' σ' H := by
  obtain ⟨d, v, a, e1, e2⟩ := h
  rw [e1, e2]
  exact R.give (.refl H) (r := .val d) a rfl
/-- targets given their values; O: wider than what is apart now -/
theorem Set1.less {O O' : Addr → Prop} {i : Nat} (l : ∀ b, O' b → O b) (h : Set1 O H i e σ e' σ') : Set1 O' H i e σ e' σ' := by
  obtain ⟨d, v, a, e1, e2⟩ := h
  exact ⟨d, v, At.tr (Tr.less l) _ _ a, e1, e2⟩
theorem Rel.setN (R : Rel K Er O0 H0 e σ H) : ∀ {tg : List Nat}, SetN (Ow O0 e σ) H tg e σ e' σ' → Rel K Er O0 H0 e' σ' H ∧ Stp e σ H e' σ' H
  | [_], h => R.set1 h
  | [i, j], ⟨e1, σ1, h1, h2⟩ => by
    obtain ⟨R1, S1⟩ := R.set1 h1
    obtain ⟨d, v, _, q1, q2⟩ := h1
    obtain ⟨R2, S2⟩ := R1.set1 (h2.less fun b z => by
      rw [q1, q2] at z
      exact (ow_set z).elim (fun z => z) fun z => by cases z.1)
    exact ⟨R2, S1.trans S2⟩
/-- the slot's own list or dict written anew -/
theorem Rel.write (R : Rel K Er O0 H0 e σ H) {i : Nat} {d d' : D} {a : Addr} {o : HO} (h : e[i]? = some (.own d)) (hσ : σ[i]? = some (some (.ref a))) (ow : OwnAt (Ow O0 e σ) (upd H a o) a d') :
    Rel K Er O0 H0 (e.set i (.own d')) σ (upd H a o) ∧ Stp e σ H (e.set i (.own d')) σ (upd H a o) := by
  obtain ⟨a', e1, n0, ho, _⟩ := R.own h
  rw [hσ] at e1
  cases e1
  have hi : i < e.length := (List.getElem?_eq_some_iff.mp h).1
  have es : σ.set i (some (.ref a)) = σ := by
    obtain ⟨h1, h2⟩ := List.getElem?_eq_some_iff.mp hσ
    rw [← h2]
    exact List.set_getElem_self h1
  have oa : OwS e σ a := ⟨i, d, h, hσ⟩
  have kp : ∀ b u, H b = some u → b ≠ a → upd H a o b = some u := fun b u q ne => by rw [upd_ne ne]; exact q
  have low : ∀ b, Ow O0 (e.set i (.own d')) (σ.set i (some (.ref a))) b → Ow O0 e σ b := fun b z => (ow_set z).elim (fun z => z) fun z => by
    rw [← V.ref.inj (Option.some.inj z.2)]
    exact ho
  have t0 : Tr (Ow O0 e σ) (Ow O0 e σ) H (upd H a o) := fun b u _ n r => ⟨n, by
    have ne : b ≠ a := fun z => n (by rw [z]; exact ho)
    rcases r with r | ⟨o', r⟩
    · exact .inl (kp _ _ r ne)
    · exact .inr ⟨o', kp _ _ r ne⟩⟩
  have t : Tr (Ow O0 e σ) (Ow O0 (e.set i (.own d')) (σ.set i (some (.ref a)))) H (upd H a o) := t0.trans (.less low)
  have r := R.put (i := i) (c := .own d') (w := some (.ref a)) (H1 := upd H a o) (fun b u q => kp b u (R.same _ _ q) fun z => by rw [z, n0] at q; cases q) t (fun j cj b ne h1 h2 h3 u q => kp b u q fun z => ne (R.dis j i cj _ b h1 h h2 rfl h3 (by rw [z]; exact hσ)))
    ⟨a, rfl, n0, ow.tr (.less low) fun _ z => z⟩ (fun _ j cj b ne h1 h2 h3 z => ne (R.dis j i cj _ b h1 h h2 rfl h3 (by rw [← Option.some.inj z]; exact hσ)))
  have st := Stp.put (e := e) (σ := σ) (H := H) (H1 := upd H a o) (i := i) (c := .own d') (w := some (.ref a)) (fun _ z => by cases z) (fun _ z => by cases z) (fun b u q n => kp b u q fun z => n (by rw [z]; exact oa)) (fun d b _ z => .inl (by rw [← V.ref.inj (Option.some.inj z)]; exact oa))
  rw [es] at r st
  exact ⟨r, st⟩
/-- a list or dict of one's own is frozen: nobody writes to it any more -/
theorem Rel.freeze (R : Rel K Er O0 H0 e σ H) (i : Nat) : Rel K Er O0 H0 (e.set i (frzS (e.getD i .no))) σ H ∧ Stp e σ H (e.set i (frzS (e.getD i .no))) σ H := by
  have id_ : ∀ c, e[i]? = some c → frzS c = c → (e.set i (frzS (e.getD i .no))) = e := fun c h q => by
    obtain ⟨h1, h2⟩ := List.getElem?_eq_some_iff.mp h
    rw [List.getD_eq_getElem?_getD, h]
    show e.set i (frzS c) = e
    rw [q, ← h2]
    exact List.set_getElem_self h1
  cases hc : e[i]? with
  | none =>
    have z : e.set i (frzS (e.getD i .no)) = e := List.set_eq_of_length_le (by rw [List.getElem?_eq_none_iff] at hc; exact hc)
    rw [z]
    exact ⟨R, .refl⟩
  | some c =>
    cases c with
    | own d =>
      have eq : e.getD i .no = .own d := by rw [List.getD_eq_getElem?_getD, hc]; rfl
      rw [eq]
      show Rel K Er O0 H0 (e.set i (.val d)) σ H ∧ _
      obtain ⟨a, hσ, n0, ho, ow⟩ := R.own hc
      have es : σ.set i (some (.ref a)) = σ := by
        obtain ⟨h1, h2⟩ := List.getElem?_eq_some_iff.mp hσ
        rw [← h2]
        exact List.set_getElem_self h1
      have t : Tr (Ow O0 e σ) (Ow O0 (e.set i (.val d)) (σ.set i (some (.ref a)))) H H := Tr.less fun b z => (ow_set z).elim (fun z => z) fun z => by cases z.1
      have na : ¬ Ow O0 (e.set i (.val d)) (σ.set i (some (.ref a))) a := fun z => by
        rcases z with z | ⟨j, x, z1, z2, z3⟩
        · exact R.od a z n0
        · by_cases q : i = j
          · subst q
            rw [List.getElem?_set_self (List.getElem?_eq_some_iff.mp hc).1] at z1
            cases z1
            cases z2
          · rw [List.getElem?_set_ne q] at z1 z3
            exact q (R.dis i j _ x a hc z1 rfl z2 hσ z3)
      have at_ : At (Ow O0 (e.set i (.val d)) (σ.set i (some (.ref a)))) H d (.ref a) := (ow.tr t fun _ z => z).at_ na
      have r := R.put (i := i) (c := .val d) (w := some (.ref a)) R.same t (fun j cj b _ _ _ _ o h => h) ⟨_, rfl, at_⟩ (fun z => by cases z)
      have st := Stp.put (e := e) (σ := σ) (H := H) (H1 := H) (i := i) (c := .val d) (w := some (.ref a)) (fun _ z => by cases z) (fun _ z => by cases z) (fun b o h _ => h) (fun d b z => by cases z)
      rw [es] at r st
      exact ⟨r, st⟩
    | no => rw [id_ _ hc rfl]; exact ⟨R, .refl⟩
    | val d => rw [id_ _ hc rfl]; exact ⟨R, .refl⟩
    | lent d => rw [id_ _ hc rfl]; exact ⟨R, .refl⟩
    | bor d => rw [id_ _ hc rfl]; exact ⟨R, .refl⟩
    | err d => rw [id_ _ hc rfl]; exact ⟨R, .refl⟩
end
end Ev
set_option Elab.async false
set_option linter.all false
set_option maxRecDepth 100000
set_option maxHeartbeats 4000000
set_option autoImplicit false
/-! Statements: one rule a kind. -/
namespace Ev
open PySem PySem.Spec PyProof.Rows L2

def PostS (C : Cx) (Er : Addr → Str → Prop) (W : WX) (O0 : Addr → Prop) (H0 : Hp) (e : En) (σ : L2.St) (H : Hp) (Z : Ends) : Out → Prop
  | .nx e' => ∀ σ' H', Rel C.K Er O0 H0 e' σ' H' → Stp e σ H e' σ' H' → Z.nx σ' H'
  | .ret r => ∀ v H', Same H0 H' → ResOk C.K O0 H0 H' r v → (∀ b o, H b = some o → ¬ OwS e σ b → H' b = some o) → Z.rt v H'
  | .exc c e' => ∀ cv σ' H', C.mg c = some cv → Rel C.K Er O0 H0 e' σ' H' → Stp e σ H e' σ' H' → W cv none σ' H'
  | .stuck => False
def tS (C : Cx) (Er : Addr → Str → Prop) (W : WX) (f : En → Out) : TS := fun Z σ H => ∃ O0 H0 e, Rel C.K Er O0 H0 e σ H ∧ PostS C Er W O0 H0 e σ H Z (f e)
theorem ps_case {C : Cx} {st : Stmt} {t' : TS} (h : ∀ Z σ H, t' Z σ H → ∃ t, PS C st t ∧ t Z σ H) : PS C st t' :=
  ⟨fun pins s σ H Z I q => let ⟨_, p, q'⟩ := h Z σ H q; p.run pins s σ H Z I q'⟩
theorem pss_case {C : Cx} {st : List Stmt} {t' : TS} (h : ∀ Z σ H, t' Z σ H → ∃ t, PSs C st t ∧ t Z σ H) : PSs C st t' :=
  ⟨fun pins s σ H Z I q => let ⟨_, p, q'⟩ := h Z σ H q; p.run pins s σ H Z I q'⟩
section
variable {C : Cx} {Er : Addr → Str → Prop} {W : WX} {O0 : Addr → Prop} {H0 H H1 : Hp} {e e1 : En} {σ σ1 : L2.St} {Z : Ends}
theorem wants_S {B : Type} {g : B → Out} (R : Rel C.K Er O0 H0 e σ H) : Wants W C.mg σ H (fun z : Rs B => PostS C Er W O0 H0 e σ H Z (z.out e g)) :=
  ⟨fun h cv H' s m => h cv σ H' m (R.step s) (.same s), fun h => h⟩
/-- from a later place -/
theorem PostS.from (S : Stp e σ H e1 σ1 H1) : ∀ {o : Out}, PostS C Er W O0 H0 e σ H Z o → PostS C Er W O0 H0 e1 σ1 H1 Z o
  | .nx _, h => fun σ' H' r s => h σ' H' r (S.trans s)
  | .ret _, h => fun v H' s r k => h v H' s r fun b o q n => k b o (S.kept b o q n) fun z => by
    rcases S.grow b z with z | z
    · exact n z
    · rw [q] at z; cases z
  | .exc _ _, h => fun cv σ' H' m r s => h cv σ' H' m r (S.trans s)
  | .stuck, h => h
theorem ow_less : ∀ b, O0 b → Ow O0 e σ b := fun _ z => .inl z
end
section
variable {C : Cx} {Er : Addr → Str → Prop} {W : WX} {f g : En → Rs RV} {x y : Expr} {pos : Pos} {N : List Str} {sc : Scope}
theorem noSwap {e : Expr} (h : noComp e = true) (t : Option Expr) (l : Nat) (env : PySem.Env) : swapsWith e t l env = pure false := by
  cases e <;> first
    | rfl
    | (cases h; done)
theorem c_asg {i : Nat} {n : Str} {p : Pos} (eN : C.N = N) (es : C.env.scope = sc) (nd : N.Nodup) (hf : ∀ y, C.fn y = true) (hx : PE C x (cX C Er W f)) (h : stB N sc i n = true) (nc : noComp x = true) :
    PS C (.Assign [.Name n p] x pos) (tS C Er W fun e => ((f e).bind giveS).out e fun s => .nx (e.set i s)) := by
  unfold stB at h
  obtain ⟨h1, h2⟩ := and2 h
  have h1 := of_decide_eq_true h1
  refine ps_case fun Z σ H ⟨O0, H0, e, R, hp⟩ => ⟨_, ps_set (by rw [eN]; exact nd) (by rw [eN]; exact h1) (by rw [es]; exact loc_of h2) hx (noSwap nc _ _ _) (.inl (hf n)), ?_⟩
  refine tX_bind (wants_S R) (.refl H) R.see hp fun r v H1 _ s1 a1 R1 p1 => ?_
  cases q : giveS r with
  | stuck => rw [q] at p1; exact False.elim (show False from p1)
  | exc c => cases r <;> cases q
  | ok c =>
    rw [q] at p1
    have k := R.give (i := i) s1 a1 q
    exact p1 _ _ k.1 k.2
theorem c_expr (hx : PE C x (cX C Er W f)) (nc : noComp x = true) : PS C (.Expr x pos) (tS C Er W fun e => (f e).out e fun _ => .nx e) :=
  ps_case fun Z σ H ⟨O0, H0, e, R, hp⟩ => ⟨_, ps_expr hx (noSwap nc _ _ _), by
    have hp : PostS C Er W O0 H0 e σ H Z (((f e).bind Rs.ok).out e fun _ => .nx e) := by
      have q : (f e).bind Rs.ok = f e := by cases f e <;> rfl
      rw [q]
      exact hp
    exact tX_bind (wants_S R) (.refl H) R.see hp fun r v H1 _ s1 a1 R1 p1 => p1 σ H1 (R.step s1) (.same s1)⟩
theorem c_if {tt : En → Rs Bool} {a b : List Stmt} {fa fb : En → Out} (hx : PT C x (cT C Er W tt)) (ha : PSs C a (tS C Er W fa)) (hb : PSs C b (tS C Er W fb)) :
    PS C (.If x a b pos) (tS C Er W fun e => (tt e).out e fun c => if c = true then fa e else fb e) :=
  ps_case fun Z σ H ⟨O0, H0, e, R, hp⟩ => ⟨_, ps_if hx ha hb, by
    have hp : PostS C Er W O0 H0 e σ H Z (((tt e).bind Rs.ok).out e fun c => if c = true then fa e else fb e) := by
      have q : (tt e).bind Rs.ok = tt e := by cases tt e <;> rfl
      rw [q]
      exact hp
    refine tT_bind (wants_S R) (.refl H) R.see hp fun c H1 _ s1 R1 p1 => ?_
    have p1 : PostS C Er W O0 H0 e σ H Z (if c = true then fa e else fb e) := p1
    cases c with
    | true => exact ⟨O0, H0, e, R.step s1, PostS.from (.same s1) p1⟩
    | false => exact ⟨O0, H0, e, R.step s1, PostS.from (.same s1) p1⟩⟩
theorem c_seq {st : Stmt} {sts : List Stmt} {fa fb : En → Out} (ha : PS C st (tS C Er W fa)) (hb : PSs C sts (tS C Er W fb)) :
    PSs C (st :: sts) (tS C Er W fun e => match fa e with
      | .nx e' => fb e'
      | o => o) :=
  pss_case fun Z σ H ⟨O0, H0, e, R, hp⟩ => ⟨_, pss_cons ha hb, ⟨O0, H0, e, R, by
    dsimp only at hp
    cases q : fa e with
    | nx e' =>
      rw [q] at hp
      exact fun σ' H' r s => ⟨O0, H0, e', r, PostS.from s hp⟩
    | ret r => rw [q] at hp; exact hp
    | exc c e' => rw [q] at hp; exact hp
    | stuck => rw [q] at hp; exact hp⟩⟩
theorem c_none_left : PSs C [] (tS C Er W fun e => .nx e) := pss_case fun Z σ H ⟨O0, H0, e, R, hp⟩ => ⟨_, pss_nil, hp σ H R .refl⟩
theorem c_pass {p : Pos} : PSs C [.Pass p] (tS C Er W fun e => .nx e) := pss_case fun Z σ H ⟨O0, H0, e, R, hp⟩ => ⟨_, pss_one ps_pass, hp σ H R .refl⟩
theorem c_frz {sts : List Stmt} {i : Nat} {fa : En → Out} (ha : PSs C sts (tS C Er W fa)) : PSs C sts (tS C Er W fun e => fa (e.set i (frzS (e.getD i .no)))) :=
  pss_case fun Z σ H ⟨O0, H0, e, R, hp⟩ => ⟨_, ha, by
    have k := R.freeze i
    exact ⟨O0, H0, _, k.1, PostS.from k.2 hp⟩⟩
theorem c_retN : PS C (.Return none pos) (tS C Er W fun e => .ret (.val .non)) :=
  ps_case fun Z σ H ⟨O0, H0, e, R, hp⟩ => ⟨_, ps_retN, hp _ H R.same res_non fun _ _ h _ => h⟩
/-- return: what is one's own goes over -/
theorem c_ret_data {a : X} (nv : ∀ i, a ≠ .var i) (hx : PE C x (cX C Er W f)) : PS C (.Return (some x) pos) (tS C Er W fun e => ((f e).bind (retR e a)).out e fun r => .ret r) :=
  ps_case fun Z σ H ⟨O0, H0, e, R, hp⟩ => ⟨_, ps_ret hx, tX_bind (wants_S R) (.refl H) R.see hp fun r v H1 _ s1 a1 R1 p1 => by
    cases r with
    | val d => exact p1 v H1 (R.same.trans s1) (At.tr (.less ow_less) _ _ a1) fun b o h _ => s1 _ _ h
    | own d =>
      obtain ⟨b, ev, nb, ow⟩ := a1
      exact p1 v H1 (R.same.trans s1) ⟨b, ev, R.same.free nb, ow.tr (.less fun c z => z.elim (fun z => .inl (.inl z)) .inr) fun _ z => z⟩ fun b o h _ => s1 _ _ h
    | bor d =>
      exfalso
      have p1 : PostS C Er W O0 H0 e σ H Z ((retR e a (.bor d)).out e fun r => .ret r) := p1
      cases a <;> first
        | exact p1
        | exact nv _ rfl⟩
theorem c_ret_var {i : Nat} {n : Str} {p : Pos} (hN : C.N[i]? = some n) (hv : Vis C.env.scope n) (hd : (n == ("__debug__" : Str)) = false) (hcd : (n == ("__classdict__" : Str)) = false) :
    PS C (.Return (some (.Name n p)) pos) (tS C Er W fun e => ((match e[i]? with
      | some (.val d) => Rs.ok (.val d)
      | some (.own d) => .ok (.bor d)
      | some (.lent d) => .ok (.bor d)
      | some (.bor d) => .ok (.bor d)
      | _ => .stuck : Rs RV).bind (retR e (.var i))).out e fun r => .ret r) :=
  ps_case fun Z σ H ⟨O0, H0, e, R, hp⟩ => by
    refine ⟨_, ps_ret (pe_var hN hv hd hcd), ?_⟩
    dsimp only at hp
    cases q : e[i]? with
    | none => rw [q] at hp; exact False.elim hp
    | some c =>
      rw [q] at hp
      cases c with
      | no => exact False.elim hp
      | err c => exact False.elim hp
      | val d =>
        obtain ⟨v, e1, a⟩ := R.slot i _ q
        have hp : PostS C Er W O0 H0 e σ H Z (.ret (.val d)) := hp
        exact ⟨v, join_some e1, hp v H R.same (At.tr (.less ow_less) _ _ a) fun _ _ h _ => h⟩
      | own d =>
        obtain ⟨a, e1, n0, ho, ow⟩ := R.own q
        have hp : PostS C Er W O0 H0 e σ H Z ((retR e (.var i) (.bor d)).out e fun r => .ret r) := hp
        unfold retR at hp
        dsimp only at hp
        rw [q] at hp
        exact ⟨_, e1, hp _ H R.same ⟨a, rfl, n0, ow.tr (.less fun c z => z.elim .inl fun z => by rw [z]; exact ho) fun _ z => z⟩ fun _ _ h _ => h⟩
      | lent d =>
        have hp : PostS C Er W O0 H0 e σ H Z ((retR e (.var i) (.bor d)).out e fun r => .ret r) := hp
        unfold retR at hp
        dsimp only at hp
        rw [q] at hp
        exact False.elim hp
      | bor d =>
        have hp : PostS C Er W O0 H0 e σ H Z ((retR e (.var i) (.bor d)).out e fun r => .ret r) := hp
        unfold retR at hp
        dsimp only at hp
        rw [q] at hp
        exact False.elim hp

/-! ### writing to what is one's own -/
theorem tr_own {O : Addr → Prop} {H : Hp} {a : Addr} {o : HO} (h : O a) : Tr O O H (upd H a o) := fun b u _ n r => ⟨n, by
  have ne : b ≠ a := fun z => n (by rw [z]; exact h)
  rcases r with r | ⟨o', r⟩
  · exact .inl (by rw [upd_ne ne]; exact r)
  · exact .inr ⟨o', by rw [upd_ne ne]; exact r⟩⟩
section
variable {i : Nat} {n : Str} {p ap : Pos}
theorem c_app (hN : C.N[i]? = some n) (hv : Vis C.env.scope n) (hd : (n == ("__debug__" : Str)) = false) (hcd : (n == ("__classdict__" : Str)) = false) (hx : PE C x (cX C Er W f)) (ns : noStar x = true) {p2 : Pos} (hl : apLine ap p2 = true) :
    PS C (.Expr (.Call (.Attribute (.Name n p) "append" ap) [x] [] p2) pos) (tS C Er W fun e => match e[i]? with
      | some (.own (.lst xs)) => ((f e).bind asVal).out e fun d => if xs.length < lim then .nx (e.set i (.own (.lst (xs ++ [d])))) else .stuck
      | _ => .stuck) :=
  ps_case fun Z σ H ⟨O0, H0, e, R, hp⟩ => by
    refine ⟨_, ps_expr (pe_bm PySem.F.plainAttrs_list PySem.F.slot_list_append PySem.F.type_list_append mt_append (pe_var hN hv hd hcd) (pa_one hx ns) (attr_plain rfl _ _ _) (by rw [star_cons ns]; rfl) hl (star_cons ns _ _) rfl) (noSwap rfl _ _ _), ?_⟩
    dsimp only at hp
    split at hp
    · rename_i xs q
      obtain ⟨a, hσ, n0, ho, vs, ha, al⟩ := R.own q
      refine ⟨_, hσ, .inl ⟨rfl, vs, .of ha⟩, ?_⟩
      refine tX_bind (wants_S R) (.refl H) R.see hp fun r v H1 _ s1 a1 R1 p1 => ?_
      rcases asVal_cases r with ⟨d, qd⟩ | qd
      · rw [qd] at p1
        have p1 : PostS C Er W O0 H0 e σ H Z (if xs.length < lim then .nx (e.set i (.own (.lst (xs ++ [d])))) else .stuck) := p1
        by_cases hz : xs.length < lim
        · rw [if_pos hz] at p1
          have ad := a1.val R.ow qd
          have al1 := AtL.tr (.same s1) _ _ al
          have R2 := R.step s1
          have k := R2.write (d' := .lst (xs ++ [d])) (o := .lst (vs ++ [v])) q hσ ⟨_, upd_same, (AtL.tr (tr_own ho) _ _ al1).append (.one (At.tr (tr_own ho) _ _ ad))⟩
          exact ⟨a, vs, v, rfl, rfl, s1 _ _ ha, by rw [← al.length, ← lim_eq]; exact hz, p1 _ _ k.1 ((Stp.same s1).trans k.2)⟩
        · rw [if_neg hz] at p1; exact False.elim p1
      · rw [qd] at p1; exact False.elim (show False from p1)
    · exact False.elim hp
theorem c_popk (hN : C.N[i]? = some n) (hv : Vis C.env.scope n) (hd : (n == ("__debug__" : Str)) = false) (hcd : (n == ("__classdict__" : Str)) = false) (hx : PE C x (cX C Er W f)) (ns : noStar x = true) {p2 : Pos} (hl : apLine ap p2 = true) :
    PS C (.Expr (.Call (.Attribute (.Name n p) "pop" ap) [x] [] p2) pos) (tS C Er W fun e => match e[i]? with
      | some (.own (.dct kvs)) => ((f e).bind asVal).out e fun d => match d with
        | .str s => if has kvs s = true then .nx (e.set i (.own (.dct (drop kvs s)))) else .stuck
        | _ => .stuck
      | _ => .stuck) :=
  ps_case fun Z σ H ⟨O0, H0, e, R, hp⟩ => by
    refine ⟨_, ps_expr (pe_dpop1 (pe_var hN hv hd hcd) hx (m1_ok rfl ns hl)) (noSwap rfl _ _ _), ?_⟩
    dsimp only at hp
    split at hp
    · rename_i ks q
      obtain ⟨a, hσ, n0, ho, kvs, ha, al⟩ := R.own q
      refine ⟨_, hσ, a, rfl, .inl ⟨kvs, .of ha⟩, ?_⟩
      refine tX_bind (wants_S R) (.refl H) R.see hp fun r v H1 _ s1 a1 R1 p1 => ?_
      rcases asVal_cases r with ⟨d, qd⟩ | qd
      · rw [qd] at p1
        have e2 := ResOk.any a1
        rw [asVal_ok qd] at e2
        cases d <;> first
          | exact False.elim (show False from p1)
          | skip
        rename_i s
        have p1 : PostS C Er W O0 H0 e σ H Z (if has ks s = true then .nx (e.set i (.own (.dct (drop ks s)))) else .stuck) := p1
        by_cases hz : has ks s = true
        · rw [if_pos hz] at p1
          cases any_str e2
          have al1 := AtD.tr (.same s1) _ _ al
          have R2 := R.step s1
          have k := R2.write (d' := .dct (drop ks s)) (o := .dK (dropK kvs (Sum.inr s))) q hσ ⟨_, upd_same, AtD.drop s (AtD.tr (tr_own ho) _ _ al1)⟩
          rw [AtD.has s al] at hz
          obtain ⟨w, hw⟩ := Option.isSome_iff_exists.mp hz
          exact ⟨kvs, .inr s, w, s1 _ _ ha, rfl, hw, p1 _ _ k.1 ((Stp.same s1).trans k.2)⟩
        · rw [if_neg hz] at p1; exact False.elim p1
      · rw [qd] at p1; exact False.elim (show False from p1)
    · exact False.elim hp
theorem c_setI (hu : C.A.units + 190 < cLine) (hN : C.N[i]? = some n) (hv : Vis C.env.scope n) (hd : (n == ("__debug__" : Str)) = false) (hcd : (n == ("__classdict__" : Str)) = false) (hk : PE C y (cX C Er W g)) (hx : PE C x (cX C Er W f)) (nc : noComp x = true) (hs : noSlice y = true) {p2 : Pos} :
    PS C (.Assign [.Subscript (.Name n p) y p2] x pos) (tS C Er W fun e => match e[i]? with
      | some (.own _) => ((f e).bind fun r => (asVal r).bind fun d => (g e).bind fun k => .ok (k.d, d)).out e fun p => setO e i p.1 p.2
      | _ => .stuck) :=
  ps_case fun Z σ H ⟨O0, H0, e, R, hp⟩ => by
    dsimp only at hp
    split at hp
    case h_2 => exact False.elim hp
    rename_i d0 q0
    by_cases q : ∃ xs, e[i]? = some (.own (.lst xs))
    · obtain ⟨xs, q⟩ := q
      refine ⟨_, ps_asg hx (pg_sub (pe_var hN hv hd hcd) hk set_list (fun _ => by cases y <;> first | rfl | cases hs)) (by unfold swapsWithSole; exact noSwap nc _ _ _) (by cases x <;> rfl), ?_⟩
      obtain ⟨a, hσ, n0, ho, vs, ha, al⟩ := R.own q
      refine tX_bind (wants_S R) (.refl H) R.see hp fun r v H1 _ s1 a1 R1 p1 => ?_
      rcases asVal_cases r with ⟨d, qd⟩ | qd
      · rw [qd, bind_ok] at p1
        refine ⟨_, hσ, ?_⟩
        refine tX_bind (wants_S R) s1 R1 p1 fun r2 v2 H2 _ s2 a2 R2 p2 => ?_
        have p2 : PostS C Er W O0 H0 e σ H Z (setO e i r2.d d) := p2
        have b2 := ResOk.any a2
        unfold setO at p2
        rw [q] at p2
        generalize r2.d = kd at p2 b2
        cases kd <;> first
          | exact False.elim (show False from p2)
          | skip
        rename_i j
        have p2 : PostS C Er W O0 H0 e σ H Z (if 0 ≤ j ∧ j < xs.length then .nx (e.set i (.own (.lst (xs.set j.toNat d)))) else .stuck) := p2
        by_cases hz : 0 ≤ j ∧ j < xs.length
        · rw [if_pos hz] at p2
          cases any_int b2
          have s12 := s1.trans s2
          have ad := At.tr (.same s2) _ _ (a1.val R.ow qd)
          have al1 := AtL.tr (.same s12) _ _ al
          have R3 := R.step s12
          have k := R3.write (d' := .lst (xs.set j.toNat d)) (o := .lst (vs.set j.toNat v)) q hσ ⟨_, upd_same, AtL.set (At.tr (tr_own ho) _ _ ad) _ (AtL.tr (tr_own ho) _ _ al1)⟩
          refine ⟨a, vs, j, j.toNat, rfl, rfl, s12 _ _ ha, ?_, p2 _ _ k.1 ((Stp.same s12).trans k.2)⟩
          have hl := al.length
          unfold ixN
          rw [if_pos hz.1, if_pos (by omega)]
        · rw [if_neg hz] at p2; exact False.elim p2
      · rw [qd] at p1; exact False.elim (show False from p1)
    · refine ⟨_, ps_dput (by omega) (pe_var hN hv hd hcd) hk hx (noSwap nc _ _ _), ?_⟩
      refine tX_bind (wants_S R) (.refl H) R.see hp fun r v H1 _ s1 a1 R1 p1 => ?_
      rcases asVal_cases r with ⟨d, qd⟩ | qd
      · rw [qd, bind_ok] at p1
        obtain ⟨a, hσ, n0, ho, ow⟩ := R.own q0
        refine ⟨_, hσ, ?_⟩
        refine tX_bind (wants_S R) s1 R1 p1 fun r2 v2 H2 _ s2 a2 R2 p2 => ?_
        have p2 : PostS C Er W O0 H0 e σ H Z (setO e i r2.d d) := p2
        have b2 := ResOk.any a2
        unfold setO at p2
        rw [q0] at p2
        cases d0 with
        | lst xs => exact absurd ⟨xs, q0⟩ q
        | dct ks =>
          obtain ⟨kvs, ha, al⟩ := ow
          generalize r2.d = kd at p2 b2
          cases kd <;> first
            | exact False.elim (show False from p2)
            | skip
          rename_i s
          have p2 : PostS C Er W O0 H0 e σ H Z (if ks.length < lim then .nx (e.set i (.own (.dct (put ks s d)))) else .stuck) := p2
          by_cases hz : ks.length < lim
          · rw [if_pos hz] at p2
            cases any_str b2
            have s12 := s1.trans s2
            have ad := At.tr (.same s2) _ _ (a1.val R.ow qd)
            have al1 := AtD.tr (.same s12) _ _ al
            have R3 := R.step s12
            have k := R3.write (d' := .dct (put ks s d)) (o := .dK (putK kvs (Sum.inr s) v)) q0 hσ ⟨_, upd_same, AtD.put (At.tr (tr_own ho) _ _ ad) (AtD.tr (tr_own ho) _ _ al1)⟩
            exact ⟨a, _, rfl, .inl ⟨kvs, .inr s, s12 _ _ ha, rfl, by rw [← al.length, ← lim_eq]; exact hz, rfl⟩, p2 _ _ k.1 ((Stp.same s12).trans k.2)⟩
          · rw [if_neg hz] at p2; exact False.elim p2
        | _ => exact ow.elim
      · rw [qd] at p1; exact False.elim (show False from p1)
end
end
end Ev
set_option Elab.async false
set_option linter.all false
set_option maxRecDepth 100000
set_option maxHeartbeats 4000000
set_option autoImplicit false
/-! Loops. -/
namespace Ev
open PySem PySem.Spec PyProof.Rows L2

/-! ### what is lent for a loop -/
def LentOf (e eL : En) : Prop := ∀ i : Nat, eL[i]? = e[i]? ∨ ∃ d, e[i]? = some (.own d) ∧ eL[i]? = some (.lent d)
theorem LentOf.refl {e : En} : LentOf e e := fun _ => .inl rfl
theorem lend1_of (x : X) (e : En) : LentOf e (lend1 x e) := by
  cases x <;> first
    | exact .refl
    | skip
  rename_i i
  unfold lend1
  dsimp only
  split
  · rename_i d q
    intro j
    by_cases h : i = j
    · subst h
      exact .inr ⟨d, q, List.getElem?_set_self (List.getElem?_eq_some_iff.mp q).1⟩
    · exact .inl (List.getElem?_set_ne h)
  · exact .refl
theorem LentOf.trans {e f g : En} (a : LentOf e f) (b : LentOf f g) : LentOf e g := fun i => by
  rcases b i with h | ⟨d, h1, h2⟩
  · rcases a i with k | ⟨d, k1, k2⟩
    · exact .inl (h.trans k)
    · exact .inr ⟨d, k1, h.trans k2⟩
  · rcases a i with k | ⟨d', k1, k2⟩
    · exact .inr ⟨d, by rw [← k]; exact h1, h2⟩
    · rw [k2] at h1; cases h1
theorem lendE_of (it : It) (e : En) : LentOf e (lendE it e) := by
  cases it with
  | ex a => exact lend1_of a e
  | range a => exact .refl
  | enum a => exact lend1_of a e
  | zip a b => exact (lend1_of a e).trans (lend1_of b _)
  | rev a => exact lend1_of a e
theorem lend1_len (x : X) (e : En) : (lend1 x e).length = e.length := by
  unfold lend1
  split
  · split
    · rw [List.length_set]
    · rfl
  · rfl
theorem lendE_len (it : It) (e : En) : (lendE it e).length = e.length := by
  cases it with
  | ex a => exact lend1_len a e
  | range a => rfl
  | enum a => exact lend1_len a e
  | zip a b => exact (lend1_len b _).trans (lend1_len a e)
  | rev a => exact lend1_len a e
theorem lend1_var {x : X} {e : En} {i : Nat} (h : isV x i) (d : D) : (lend1 x e)[i]? ≠ some (.own d) := by
  cases x <;> first
    | exact h.elim
    | skip
  rename_i j
  have h : j = i := h
  subst h
  unfold lend1
  dsimp only
  split
  · rename_i d' q
    rw [List.getElem?_set_self (List.getElem?_eq_some_iff.mp q).1]
    intro z
    cases z
  · rename_i q
    exact fun z => q d z
theorem lendE_var {it : It} {e : En} {i : Nat} (h : itVars it i) (d : D) : (lendE it e)[i]? ≠ some (.own d) := by
  cases it with
  | ex a => exact lend1_var h d
  | range a => exact h.elim
  | enum a => exact lend1_var h d
  | zip a b =>
    rcases h with h | h
    · intro z
      rcases lend1_of b (lend1 a e) i with k | ⟨d', k1, k2⟩
      · exact lend1_var h d (k.symm.trans z)
      · have z : (lend1 b (lend1 a e))[i]? = some (.own d) := z
        rw [k2] at z; cases z
    · exact lend1_var h d
  | rev a => exact lend1_var h d
theorem mine_of {e eL : En} (L : LentOf e eL) {i : Nat} {c : Cel} : (∃ c', eL[i]? = some c' ∧ c'.mine = true) ↔ ∃ c, e[i]? = some c ∧ c.mine = true := by
  rcases L i with h | ⟨d, h1, h2⟩
  · rw [h]
  · rw [h1, h2]
    exact ⟨fun _ => ⟨_, rfl, rfl⟩, fun _ => ⟨_, rfl, rfl⟩⟩
theorem ow_eq_of {O0 : Addr → Prop} {e e' : En} {σ : L2.St} (h : ∀ i : Nat, (∃ c', e'[i]? = some c' ∧ c'.mine = true) ↔ ∃ c, e[i]? = some c ∧ c.mine = true) : Ow O0 e' σ = Ow O0 e σ := by
  funext b
  refine propext ⟨fun z => ?_, fun z => ?_⟩
  · rcases z with z | ⟨i, c, z1, z2, z3⟩
    · exact .inl z
    · obtain ⟨c', q1, q2⟩ := (h i).mp ⟨c, z1, z2⟩
      exact .inr ⟨i, c', q1, q2, z3⟩
  · rcases z with z | ⟨i, c, z1, z2, z3⟩
    · exact .inl z
    · obtain ⟨c', q1, q2⟩ := (h i).mpr ⟨c, z1, z2⟩
      exact .inr ⟨i, c', q1, q2, z3⟩
section
variable {K : PySem.W.Frag} {Er : Addr → Str → Prop} {O0 : Addr → Prop} {H0 H H1 : Hp} {e eL e2 : En} {σ σ2 : L2.St}
theorem Rel.lend (R : Rel K Er O0 H0 e σ H) (L : LentOf e eL) (hl : eL.length = e.length) : Rel K Er O0 H0 eL σ H := by
  have eo : Ow O0 eL σ = Ow O0 e σ := ow_eq_of fun i => mine_of (c := .no) L
  refine ⟨R.same, R.od, hl.trans R.len, fun i c h => ?_, fun i j c c' a h h' m m' s s' => ?_⟩
  · rw [eo]
    rcases L i with k | ⟨d, k1, k2⟩
    · rw [k] at h
      exact R.slot i c h
    · rw [k2] at h
      cases h
      obtain ⟨a, e1, n, o⟩ := R.slot i _ k1
      exact ⟨a, e1, n, o.lent⟩
  · obtain ⟨d, q1, q2⟩ := (mine_of (c := c) L).mp ⟨c, h, m⟩
    obtain ⟨d', q3, q4⟩ := (mine_of (c := c) L).mp ⟨c', h', m'⟩
    exact R.dis i j d d' a q1 q3 q2 q4 s s'
theorem LentOf.ows (L : LentOf e eL) {b : Addr} (h : OwS eL σ b) : OwS e σ b := by
  obtain ⟨i, d, h1, h2⟩ := h
  rcases L i with k | ⟨d', k1, k2⟩
  · exact ⟨i, d, k.symm.trans h1, h2⟩
  · rw [k2] at h1; cases h1

/-! ### what comes back -/
theorem back_get : ∀ (e e2 : En) (i : Nat), (∃ d x, e[i]? = some (.own d) ∧ e2[i]? = some (.lent x) ∧ (backE e e2)[i]? = some (.own x)) ∨ ((backE e e2)[i]? = e2[i]? ∧ ∀ d x, e[i]? = some (.own d) → e2[i]? ≠ some (.lent x))
  | [], e2, i => .inr ⟨rfl, fun d x h => by simp at h⟩
  | c :: r, [], i => .inr ⟨rfl, fun d x h h2 => by simp at h2⟩
  | c :: r, y :: s, 0 => by
    cases c <;> cases y <;> first
      | exact .inl ⟨_, _, rfl, rfl, rfl⟩
      | exact .inr ⟨rfl, fun d x h h2 => by simp at h h2⟩
  | c :: r, y :: s, i + 1 => by
    have ih := back_get r s i
    have e1 : (backE (c :: r) (y :: s))[i + 1]? = (backE r s)[i]? := rfl
    rw [e1]
    exact ih
theorem back_len : ∀ (e e2 : En), (backE e e2).length = e2.length
  | [], e2 => rfl
  | c :: r, [] => rfl
  | c :: r, y :: s => by
    show (backE r s).length + 1 = s.length + 1
    rw [back_len r s]
theorem back_mine {i : Nat} : (∃ c', (backE e e2)[i]? = some c' ∧ c'.mine = true) ↔ ∃ c, e2[i]? = some c ∧ c.mine = true := by
  rcases back_get e e2 i with ⟨d, x, h1, h2, h3⟩ | ⟨h, _⟩
  · rw [h2, h3]
    exact ⟨fun _ => ⟨_, rfl, rfl⟩, fun _ => ⟨_, rfl, rfl⟩⟩
  · rw [h]
theorem Rel.back (R : Rel K Er O0 H0 e2 σ2 H) (k : ∀ (i : Nat) (d x : D), e[i]? = some (.own d) → e2[i]? = some (.lent x) → ∀ a, σ2[i]? = some (some (.ref a)) → LentAt (Ow O0 e2 σ2) H a x → OwnAt (Ow O0 e2 σ2) H a x) : Rel K Er O0 H0 (backE e e2) σ2 H := by
  have eo : Ow O0 (backE e e2) σ2 = Ow O0 e2 σ2 := ow_eq_of fun i => back_mine
  refine ⟨R.same, R.od, (back_len e e2).trans R.len, fun i c h => ?_, fun i j c c' a h h' m m' s s' => ?_⟩
  · rw [eo]
    rcases back_get e e2 i with ⟨d, x, h1, h2, h3⟩ | ⟨h1, _⟩
    · rw [h3] at h
      cases h
      obtain ⟨a, e1, n, o⟩ := R.slot i _ h2
      exact ⟨a, e1, n, k i d x h1 h2 a (join_some e1) o⟩
    · rw [h1] at h
      exact R.slot i c h
  · obtain ⟨d, q1, q2⟩ := back_mine.mp ⟨c, h, m⟩
    obtain ⟨d', q3, q4⟩ := back_mine.mp ⟨c', h', m'⟩
    exact R.dis i j d d' a q1 q3 q2 q4 s s'
end

/-! ### locked for a loop -/
section
variable {C : Cx} {Er : Addr → Str → Prop} {O0 : Addr → Prop} {H0 H0L H1 H2 HL Hu : Hp} {Kp : List Addr} {e e2 : En} {σ σ2 : L2.St}
theorem Rel.lock (R : Rel C.K Er O0 H0 e σ H1) (lk : Lk C H1 HL Kp) (nk : ∀ b, b ∈ Kp → ¬ OwS e σ b) : ∃ H0L, Rel C.K Er O0 H0L e σ HL ∧ (∀ a, H0L a = none ↔ H0 a = none) ∧ ∀ (a : Addr) (u : HO), plainO u = true → Rd H0L a u → Rd H0 a u := by
  -- the ground below it, locked too
  have base : ∃ H0L, Same H0L HL ∧ (∀ a, H0L a = none ↔ H0 a = none) ∧ (∀ (a : Addr) (u : HO), plainO u = true → Rd H0L a u → Rd H0 a u) ∧ ∀ (a : Addr) (u : HO), plainO u = true → Rd H0 a u → Rd H0L a u := by
    rcases lk with q | ⟨d, o, kvs, hd, h, q, _⟩
    · rw [q]
      exact ⟨H0, R.same, fun _ => Iff.rfl, fun _ _ _ r => r, fun _ _ _ r => r⟩
    · subst q
      cases z : H0 d with
      | none =>
        refine ⟨H0, fun b u hb => ?_, fun _ => Iff.rfl, fun _ _ _ r => r, fun _ _ _ r => r⟩
        rw [upd_ne (fun w => by rw [w, z] at hb; cases hb)]
        exact R.same _ _ hb
      | some x =>
        have ex := R.same _ _ z
        rw [h] at ex
        cases ex
        refine ⟨upd H0 d (.frz o (.dK kvs)), fun b u hb => ?_, fun a => ?_, fun a u p r => ?_, fun a u p r => ?_⟩
        · by_cases w : b = d
          · subst w
            rw [upd_same] at hb ⊢
            exact hb
          · rw [upd_ne w] at hb ⊢
            exact R.same _ _ hb
        · by_cases w : a = d
          · subst w
            rw [upd_same, z]
            exact ⟨(fun q => by cases q), (fun q => by cases q)⟩
          · rw [upd_ne w]
        · by_cases w : a = d
          · subst w
            rcases r with r | ⟨o', r⟩
            · rw [upd_same] at r; cases r; cases p
            · rw [upd_same] at r; cases r; exact .inl z
          · rcases r with r | ⟨o', r⟩
            · exact .inl (by rw [upd_ne w] at r; exact r)
            · exact .inr ⟨o', by rw [upd_ne w] at r; exact r⟩
        · by_cases w : a = d
          · subst w
            rcases r with r | ⟨o', r⟩
            · rw [z] at r; cases r; exact .inr ⟨o, upd_same⟩
            · rw [z] at r; cases r
          · rcases r with r | ⟨o', r⟩
            · exact .inl (by rw [upd_ne w]; exact r)
            · exact .inr ⟨o', by rw [upd_ne w]; exact r⟩
  obtain ⟨H0L, b1, b2, b3, b4⟩ := base
  refine ⟨H0L, ⟨b1, fun b h z => R.od b h ((b2 b).mp z), R.len, fun i c h => ?_, R.dis⟩, b2, b3⟩
  have q := R.slot i c h
  cases c with
  | no => exact True.intro
  | val d => obtain ⟨v, e1, a⟩ := q; exact ⟨v, e1, At.tr lk.tr _ _ a⟩
  | own d =>
    obtain ⟨a, e1, n, o⟩ := q
    have ne : a ∉ Kp := fun z => nk a z ⟨i, d, h, join_some e1⟩
    exact ⟨a, e1, (b2 a).mpr n, o.tr lk.tr fun u z => by rw [lk.eq ne]; exact z⟩
  | lent d =>
    obtain ⟨a, e1, n, o⟩ := q
    refine ⟨a, e1, (b2 a).mpr n, ?_⟩
    cases d with
    | lst ds =>
      obtain ⟨vs, h1, l⟩ := o
      refine ⟨vs, ?_, AtL.tr lk.tr _ _ l⟩
      rcases lk with q | ⟨d, o, kvs, hd, hh, q, _⟩
      · rw [q]; exact h1
      · rw [q, upd_ne (fun z => by rw [z, hh] at h1; cases h1)]; exact h1
    | dct ks =>
      obtain ⟨kvs, h1, l⟩ := o
      exact ⟨kvs, lk.rd h1, AtD.tr lk.tr _ _ l⟩
    | _ => exact o.elim
  | bor d => obtain ⟨a, e1, b⟩ := q; exact ⟨a, e1, b.tr (fun x u p n r => ⟨n, b4 x u p r⟩) fun u p r => b4 a u p r⟩
  | err d => exact q
theorem Rel.unlock (R : Rel C.K Er O0 H0L e2 σ2 H2) (sm : Same H0 Hu) (b2 : ∀ a, H0L a = none ↔ H0 a = none) (b3 : ∀ (a : Addr) (u : HO), plainO u = true → Rd H0L a u → Rd H0 a u)
    (k4 : ∀ (a : Addr) (u : HO), plainO u = true → Rd H2 a u → Rd Hu a u) (k6 : ∀ a o, H2 a = some o → (∀ o' u', o ≠ .frz o' u') → Hu a = some o) : Rel C.K Er O0 H0 e2 σ2 Hu := by
  have t : ∀ {O : Addr → Prop}, Tr O O H2 Hu := fun a u p n r => ⟨n, k4 a u p r⟩
  refine ⟨sm, fun b h z => R.od b h ((b2 b).mpr z), R.len, fun i c h => ?_, R.dis⟩
  have q := R.slot i c h
  cases c with
  | no => exact True.intro
  | val d => obtain ⟨v, e1, a⟩ := q; exact ⟨v, e1, At.tr t _ _ a⟩
  | own d =>
    obtain ⟨a, e1, n, o⟩ := q
    refine ⟨a, e1, (b2 a).mp n, ?_⟩
    cases d with
    | lst ds => obtain ⟨vs, h1, l⟩ := o; exact ⟨vs, k6 _ _ h1 (fun _ _ z => by cases z), AtL.tr t _ _ l⟩
    | dct ks => obtain ⟨kvs, h1, l⟩ := o; exact ⟨kvs, k6 _ _ h1 (fun _ _ z => by cases z), AtD.tr t _ _ l⟩
    | _ => exact o.elim
  | lent d =>
    obtain ⟨a, e1, n, o⟩ := q
    refine ⟨a, e1, (b2 a).mp n, ?_⟩
    cases d with
    | lst ds => obtain ⟨vs, h1, l⟩ := o; exact ⟨vs, k6 _ _ h1 (fun _ _ z => by cases z), AtL.tr t _ _ l⟩
    | dct ks => obtain ⟨kvs, h1, l⟩ := o; exact ⟨kvs, k4 _ _ rfl h1, AtD.tr t _ _ l⟩
    | _ => exact o.elim
  | bor d => obtain ⟨a, e1, b⟩ := q; exact ⟨a, e1, b.tr (fun x u p n r => ⟨n, b3 x u p r⟩) fun u p r => b3 a u p r⟩
  | err d => exact q
theorem Lk.home (k : Lk C H1 HL Kp) {H' : Hp} (kp : ∀ b, b ∈ Kp → ∀ o, HL b = some o → H' b = some o) :
    ∃ Hu, Ulk C H' Hu ∧ (∀ b o, H1 b = some o → (b ∈ Kp ∨ H' b = some o) → Hu b = some o) ∧ (∀ a, Hu a = none ↔ H' a = none) ∧ (∀ (a : Addr) (u : HO), plainO u = true → Rd H' a u → Rd Hu a u) ∧ ∀ a o, H' a = some o → (∀ o' u', o ≠ .frz o' u') → Hu a = some o := by
  rcases k with q | ⟨d, o, kvs, hd, h, q, n⟩
  · subst q
    exact ⟨H', .inl rfl, fun b o h1 h2 => h2.elim (fun z => kp b z o h1) (fun z => z), fun _ => Iff.rfl, fun _ _ _ r => r, fun _ _ z _ => z⟩
  · subst q
    have e1 : H' d = some (.frz o (.dK kvs)) := kp d hd _ upd_same
    refine ⟨upd H' d (.dK kvs), .inr ⟨d, o, _, e1, rfl, n⟩, fun b u h1 h2 => ?_, fun a => ?_, fun a u p r => ?_, fun a w q nf => ?_⟩
    · by_cases z : b = d
      · subst z
        rw [upd_same, ← h1, h]
      · rw [upd_ne z]
        rcases h2 with h2 | h2
        · exact kp b h2 u (by rw [upd_ne z]; exact h1)
        · exact h2
    · by_cases z : a = d
      · subst z
        rw [upd_same, e1]
        exact ⟨(fun z => by cases z), (fun z => by cases z)⟩
      · rw [upd_ne z]
    · by_cases z : a = d
      · subst z
        rcases r with r | ⟨o', r⟩
        · rw [e1] at r; cases r; cases p
        · rw [e1] at r; cases r; exact .inl upd_same
      · rcases r with r | ⟨o', r⟩
        · exact .inl (by rw [upd_ne z]; exact r)
        · exact .inr ⟨o', by rw [upd_ne z]; exact r⟩
    · rw [upd_ne (fun z => by rw [z, e1] at q; cases q; exact nf _ _ rfl)]
      exact q
end
/-- a wish that may be unlocked first -/
def UW (C : Cx) (W : WX) : Prop := ∀ cls d σ H H0, Ulk C H H0 → W cls d σ H0 → W cls d σ H
def clE (C : Cx) (Z : Ends) : Ends := ⟨fun σ H => ∃ H0, Ulk C H H0 ∧ Z.nx σ H0, fun v H => ∃ H0, Ulk C H H0 ∧ Z.rt v H0, fun σ H => ∃ H0, Ulk C H H0 ∧ Z.bk σ H0, fun σ H => ∃ H0, Ulk C H H0 ∧ Z.ct σ H0⟩
theorem ps_cl {C : Cx} {st : Stmt} {t : TS} (h : PS C st t) : PS C st (fun Z σ H => t (clE C Z) σ H) := by
  refine ⟨fun pins s σ H Z I q => thn (h.run pins s σ H (clE C Z) I q) fun f s1 p => ?_⟩
  match f, p with
  | .next, ⟨σ', H', J, H0, k, q⟩ => exact ⟨σ', H0, k.inv J, q⟩
  | .brk, ⟨σ', H', J, H0, k, q⟩ => exact ⟨σ', H0, k.inv J, q⟩
  | .cont, ⟨σ', H', J, H0, k, q⟩ => exact ⟨σ', H0, k.inv J, q⟩
  | .ret u, ⟨v, σ', H', J, r, H0, k, q⟩ => exact ⟨v, σ', H0, k.inv J, r, q⟩
/-- a name's slot that can be walked -/
def walkable (c : Option Cel) : Prop := (∃ d, c = some (.val d)) ∨ (∃ d, c = some (.own d)) ∨ (∃ d, c = some (.lent d)) ∨ ∃ d, c = some (.bor d)
/-- the module's own objects are not ours -/
def KFree (K : PySem.W.Frag) (H : Hp) : Prop := ∀ b o, K.lookup b = some o → H b = none
theorem ps_caseK {C : Cx} {st : Stmt} {t' : TS} (h : ∀ Z σ H, KFree C.K H → t' Z σ H → ∃ t, PS C st t ∧ t Z σ H) : PS C st t' :=
  ⟨fun pins s σ H Z I q => let ⟨_, p, q'⟩ := h Z σ H (fun b o z => (I.bs b o (I.ok.mod.kin b o z)).2) q; p.run pins s σ H Z I q'⟩
theorem kp_free {K : PySem.W.Frag} {Er : Addr → Str → Prop} {O0 : Addr → Prop} {H0 H : Hp} {e : En} {σ : L2.St} {it : It} (R : Rel K Er O0 H0 e σ H) (kf : KFree K H) (hw : ∀ i, itVars it i → walkable e[i]?) {b : Addr}
    (h : ¬ Ow O0 e σ b ∨ H b = none ∨ ∃ i, itVars it i ∧ σ[i]? = some (some (.ref b))) : ¬ OwS (lendE it e) σ b := fun z => by
  have L := lendE_of it e
  have z0 := L.ows z
  rcases h with h | h | ⟨i, hi, hs⟩
  · exact h z0.ow
  · exact R.ow b z0.ow h
  · obtain ⟨j, d, h1, h2⟩ := z
    have h1e : e[j]? = some (.own d) := by
      rcases L j with k | ⟨d', k1, k2⟩
      · exact k.symm.trans h1
      · rw [k2] at h1; cases h1
    have no : i ≠ j := fun q => lendE_var hi d (by rw [q]; exact h1)
    rcases hw i hi with ⟨x, hx⟩ | ⟨x, hx⟩ | ⟨x, hx⟩ | ⟨x, hx⟩
    · obtain ⟨v, e1, a⟩ := R.slot i _ hx
      have e2 := join_some e1
      rw [hs] at e2
      cases e2
      have ho : Ow O0 e σ b := z0.ow
      cases x with
      | non => unfold At at a; cases a
      | bl _ => unfold At at a; cases a
      | int _ => unfold At at a; cases a
      | str _ => unfold At at a; cases a
      | tup _ => unfold At at a; obtain ⟨c, vs, e1, n, _⟩ := a; cases e1; exact n ho
      | lst _ => unfold At at a; obtain ⟨c, vs, e1, n, _⟩ := a; cases e1; exact n ho
      | dct _ => unfold At at a; obtain ⟨c, vs, e1, n, _⟩ := a; cases e1; exact n ho
    · exact no (R.dis i j _ _ b hx h1e rfl rfl hs h2)
    · exact no (R.dis i j _ _ b hx h1e rfl rfl hs h2)
    · obtain ⟨a, e1, o⟩ := R.slot i _ hx
      have e2 := join_some e1
      rw [hs] at e2
      cases e2
      obtain ⟨a', e3, n, _⟩ := R.own h1e
      rw [h2] at e3
      cases e3
      cases x with
      | lst _ =>
        obtain ⟨vs, r, _⟩ := o
        rcases r with r | ⟨o', its, m, r, _⟩
        · exact rd_there r n
        · exact R.ow b z0.ow (kf b o' r)
      | dct _ => obtain ⟨vs, r, _⟩ := o; exact rd_there r n
      | _ => exact o.elim
end Ev
set_option Elab.async false
set_option linter.all false
set_option maxRecDepth 100000
set_option maxHeartbeats 4000000
set_option autoImplicit false
/-! for. -/
namespace Ev
open PySem PySem.Spec PyProof.Rows L2

section
variable {C : Cx} {Er : Addr → Str → Prop} {W : WX}
theorem c_for {t i : Expr} {b : List Stmt} {pos : Pos} {tg : List Nat} {it : It} {fit : En → Rs (List D)} {fb : En → Out} (po : PassesOwn (model C.prog C.w) C.A C.env C.xe) (hc : C.calm = true) (uw : UW C W)
    (hi : PI C t i (cI C Er W (itVars it) fit)) (hg : PG C t (tgG C.K tg)) (hb : PSs C b (tS C Er W fb)) (hs : ∀ x, foldedSetIterable i C.env x = pure x)
    (hw : ∀ e its, fit e = .ok its → ∀ j, itVars it j → walkable (e[j]?)) :
    PS C (.For t i b [] pos) (tS C Er W fun e => (fit e).out e fun its => (loopF (fun d e' => (setT tg d e').out e' fb) its (lendE it e)).back e) := by
  refine ps_caseK fun Z σ H kf ⟨O0, H0, e, R, hp⟩ => ⟨_, ps_cl (ps_for po hc hi hg hb hs), ?_⟩
  refine ⟨Ow O0 e σ, e, R.see, ?_⟩
  dsimp only at hp
  cases qi : fit e with
  | stuck => rw [qi] at hp; exact hp
  | exc c => rw [qi] at hp; exact (wants_S (B := List D) (g := fun its => (loopF (fun d e' => (setT tg d e').out e' fb) its (lendE it e)).back e) R).exc hp
  | ok its =>
  rw [qi] at hp
  have hp : PostS C Er W O0 H0 e σ H Z ((loopF (fun d e' => (setT tg d e').out e' fb) its (lendE it e)).back e) := hp
  intro J ds vs Kp Keep H1 HL s1 lk wk kp al sp hl
  have L := lendE_of it e
  have R1 := R.step s1
  have free : ∀ b, b ∈ Kp → ¬ OwS (lendE it e) σ b := fun b hb => kp_free R kf (hw e its qi) (sp b hb)
  have RL1 := R1.lend L (lendE_len it e)
  obtain ⟨H0L, RL, b2, b3⟩ := RL1.lock lk free
  have ind : ∀ {e2 : En} {σ2 : L2.St} {H2 : Hp}, Rel C.K Er O0 H0L e2 σ2 H2 → Stp (lendE it e) σ HL e2 σ2 H2 →
      ∃ Hu, Ulk C H2 Hu ∧ Same H0 Hu ∧ Rel C.K Er O0 H0 (backE e e2) σ2 Hu ∧ Stp e σ H (backE e e2) σ2 Hu := fun {e2 σ2 H2} R2 S2 => by
    have kp2 : ∀ b, b ∈ Kp → ∀ o, HL b = some o → H2 b = some o := fun b hb o q => S2.kept b o q (free b hb)
    obtain ⟨Hu, k1, k2, k3, k4, k6⟩ := lk.home kp2
    have keep : ∀ b o, H1 b = some o → ¬ OwS (lendE it e) σ b → Hu b = some o := fun b o q n => by
      by_cases z : b ∈ Kp
      · exact k2 b o q (.inl z)
      · exact k2 b o q (.inr (S2.kept b o (by rw [lk.eq z]; exact q) n))
    have sm : Same H0 Hu := fun b o q => keep b o (R1.same _ _ q) fun z => by
      obtain ⟨j, d, h1, h2⟩ := L.ows z
      obtain ⟨a, e1, n, _⟩ := R.own h1
      rw [h2] at e1
      cases e1
      rw [n] at q
      cases q
    have Ru := R2.unlock sm b2 b3 k4 k6
    refine ⟨Hu, k1, sm, Ru.back fun j d x h1 h2 a ha lt => ?_, ⟨fun b o q n => keep b o (s1 _ _ q) fun z => n (L.ows z), fun b z => ?_, fun j d z => ?_, fun j c z => ?_⟩⟩
    · -- a slot that comes back: what it was, unlocked
      obtain ⟨q1, q2⟩ := S2.lent j x h2
      rw [ha] at q2
      obtain ⟨a', e1, n, ho, ow⟩ := R1.own h1
      rw [← q2] at e1
      cases e1
      have no : ¬ OwS (lendE it e) σ a := fun ⟨j', d', z1, z2⟩ => by
        have z1e : e[j']? = some (.own d') := by
          rcases L j' with k | ⟨d2, k1, k2⟩
          · exact k.symm.trans z1
          · rw [k2] at z1; cases z1
        have ej := R.dis j j' _ _ a h1 z1e rfl rfl q2.symm z2
        subst ej
        rw [q1] at z1
        cases z1
      cases x with
      | lst xs => exact lt
      | dct ks =>
        obtain ⟨kvs, r, l⟩ := lt
        cases d with
        | lst ds => 
          obtain ⟨ws, g1, _⟩ := ow
          have g2 := keep a _ g1 no
          rcases r with r | ⟨o', r⟩
          · rw [g2] at r; cases r
          · rw [g2] at r; cases r
        | dct ks' =>
          obtain ⟨ws, g1, _⟩ := ow
          have g2 := keep a _ g1 no
          rcases r with r | ⟨o', r⟩
          · exact ⟨kvs, r, l⟩
          · rw [g2] at r; cases r
        | _ => exact ow.elim
      | _ => exact lt.elim
    · obtain ⟨j, d, z1, z2⟩ := z
      rcases back_get e e2 j with ⟨d0, x, h1, h2, h3⟩ | ⟨h1, _⟩
      · obtain ⟨q1, q2⟩ := S2.lent j x h2
        exact .inl ⟨j, d0, h1, by rw [← q2]; exact z2⟩
      · rw [h1] at z1
        rcases S2.grow b ⟨j, d, z1, z2⟩ with q | q
        · exact .inl (L.ows q)
        · exact .inr (s1.free (lk.off.mp q))
    · rcases back_get e e2 j with ⟨d0, x, h1, h2, h3⟩ | ⟨h1, h2⟩
      · rw [h3] at z; cases z
      · rw [h1] at z
        obtain ⟨q1, q2⟩ := S2.lent j d z
        rcases L j with k | ⟨d', k1, k2⟩
        · exact ⟨k.symm.trans q1, q2⟩
        · exact absurd z (h2 d' d k1)
    · rcases back_get e e2 j with ⟨d0, x, h1, h2, h3⟩ | ⟨h1, h2⟩
      · rw [h3] at z; cases z
      · rw [h1] at z
        have q1 := S2.err j c z
        rcases L j with k | ⟨d', k1, k2⟩
        · exact k.symm.trans q1
        · rw [k2] at q1; cases q1
  let Inv_ : Nat → L2.St → Hp → Prop := fun i σ2 H2 => ∃ e2, Rel C.K Er O0 H0L e2 σ2 H2 ∧ Stp (lendE it e) σ HL e2 σ2 H2 ∧ PostS C Er W O0 H0 e σ H Z ((loopF (fun d e' => (setT tg d e').out e' fb) (its.drop i) e2).back e)
  refine ⟨fun i m σ2 H2 => m = its.length - i ∧ i ≤ its.length ∧ Inv_ i σ2 H2, ⟨its.length, by simp, Nat.zero_le _, _, RL, .refl, hp⟩, ?_⟩
  intro i m σ2 H2 ⟨em, hi2, e2, R2, S2, p⟩
  subst em
  have kp2 := wk.keep HL H2 kp fun b hb o q => S2.kept b o q (free b hb)
  by_cases hlt : i < its.length
  · refine .inr ⟨wk.go i H2 kp2 hlt, Inv_ (i + 1), fun σ' H' w => ⟨its.length - (i + 1), by omega, rfl, hlt, w⟩, fun x H3 y => ?_⟩
    have eo : Ow O0 (lendE it e) σ = Ow O0 e σ := ow_eq_of fun i => mine_of (c := .no) L
    have al2 : AtL (Ow O0 e2 σ2) H2 ds vs := AtL.tr S2.tr _ _ (by rw [eo]; exact AtL.tr lk.tr _ _ al)
    obtain ⟨s3, d, hd, ax⟩ := wk.yld i H2 x H3 (Ow O0 e2 σ2) kp2 al2 R2.ow hlt y
    rw [drop_get hd] at p
    rcases set_ok (tg := tg) (d := d) (e := e2) with ⟨e3, q1⟩ | q1
    · refine tg_run ax q1 fun σ3 sn => ?_
      have R3' := R2.step s3
      obtain ⟨R3, S3⟩ := R3'.setN sn
      have S23 : Stp e2 σ2 H2 e3 σ3 H3 := (Stp.same s3).trans S3
      refine ⟨O0, H0L, e3, R3, ?_⟩
      have p : PostS C Er W O0 H0 e σ H Z ((match fb e3 with
        | .nx e' => loopF (fun d e' => (setT tg d e').out e' fb) (its.drop (i + 1)) e'
        | o => o).back e) := by
        have z : loopF (fun d e' => (setT tg d e').out e' fb) (d :: its.drop (i + 1)) e2 = match fb e3 with
          | .nx e' => loopF (fun d e' => (setT tg d e').out e' fb) (its.drop (i + 1)) e'
          | o => o := by
          show (match (setT tg d e2).out e2 fb with
            | .nx e' => loopF (fun d e' => (setT tg d e').out e' fb) (its.drop (i + 1)) e'
            | o => o) = _
          rw [q1]
          rfl
        rw [← z]
        exact p
      cases qb : fb e3 with
      | stuck => rw [qb] at p; exact p
      | nx e4 =>
        rw [qb] at p
        exact fun σ4 H4 R4 S4 => ⟨e4, R4, (S2.trans S23).trans S4, p⟩
      | ret r =>
        rw [qb] at p
        intro v H4 sm4 ar kk
        have kept4 : ∀ b o, HL b = some o → ¬ OwS (lendE it e) σ b → H4 b = some o := fun b o q n => by
          have S13 := S2.trans S23
          refine kk b o (S13.kept b o q n) fun z => ?_
          rcases S13.grow b z with z | z
          · exact n z
          · rw [q] at z; cases z
        obtain ⟨Hu, k1, k2, k3, k4, k6⟩ := lk.home fun b hb o q => kept4 b o q (free b hb)
        have keep : ∀ b o, H1 b = some o → ¬ OwS (lendE it e) σ b → Hu b = some o := fun b o q n => by
          by_cases z : b ∈ Kp
          · exact k2 b o q (.inl z)
          · exact k2 b o q (.inr (kept4 b o (by rw [lk.eq z]; exact q) n))
        have sm : Same H0 Hu := fun b o q => keep b o (R1.same _ _ q) fun z => by
          obtain ⟨j, d, h1, h2⟩ := L.ows z
          obtain ⟨a, e1, n, _⟩ := R.own h1
          rw [h2] at e1
          cases e1
          rw [n] at q
          cases q
        refine ⟨Hu, k1, p v Hu sm ?_ fun b o q n => keep b o (s1 _ _ q) fun z => n (L.ows z)⟩
        have t : ∀ {O : Addr → Prop}, Tr O O H4 Hu := fun a u p n r => ⟨n, k4 a u p r⟩
        cases r with
        | val d => exact At.tr t _ _ ar
        | own d =>
          obtain ⟨a, ev, n, ow⟩ := ar
          refine ⟨a, ev, (b2 a).mp n, ?_⟩
          cases d with
          | lst ds => obtain ⟨vs, h1, l⟩ := ow; exact ⟨vs, k6 _ _ h1 (fun _ _ z => by cases z), AtL.tr t _ _ l⟩
          | dct ks => obtain ⟨kvs, h1, l⟩ := ow; exact ⟨kvs, k6 _ _ h1 (fun _ _ z => by cases z), AtD.tr t _ _ l⟩
          | _ => exact ow.elim
        | bor d =>
          obtain ⟨a, ev, bo⟩ := ar
          refine ⟨a, ev, ?_⟩
          cases d with
          | lst ds => obtain ⟨vs, h1, l⟩ := bo; exact ⟨vs, h1.elim (fun z => .inl (k4 _ _ rfl z)) .inr, AtL.tr t _ _ l⟩
          | dct ks => obtain ⟨kvs, h1, l⟩ := bo; exact ⟨kvs, k4 _ _ rfl h1, AtD.tr t _ _ l⟩
          | _ => exact bo.elim
      | exc c e4 =>
        rw [qb] at p
        intro cv σ4 H4 mc R4 S4
        obtain ⟨Hu, k1, sm, Ru, Su⟩ := ind R4 ((S2.trans S23).trans S4)
        exact uw _ _ _ _ _ k1 (p cv σ4 Hu mc Ru Su)
    · have p : PostS C Er W O0 H0 e σ H Z ((match (setT tg d e2).out e2 fb with
        | .nx e' => loopF (fun d e' => (setT tg d e').out e' fb) (its.drop (i + 1)) e'
        | o => o).back e) := p
      rw [q1] at p
      exact False.elim (show False from p)
  · have ei : i = its.length := by omega
    subst ei
    rw [List.drop_length] at p
    have p : PostS C Er W O0 H0 e σ H Z (.nx (backE e e2)) := p
    obtain ⟨Hu, k1, sm, Ru, Su⟩ := ind R2 S2
    exact .inl ⟨wk.stop _ H2 kp2 (Nat.le_refl _), Hu, k1, p σ2 Hu Ru Su⟩
end
end Ev
set_option Elab.async false
set_option linter.all false
set_option maxRecDepth 100000
set_option maxHeartbeats 4000000
set_option autoImplicit false
/-! Errors: their classes, isinstance of one that is caught, try. -/
namespace Ev
open PySem PySem.Spec PyProof.Rows L2

/-! ### what the top says of the classes -/
/-- a class's name, as an own class or a built-in one -/
def CName (mg : Str → Option Value) (c : Str) (vc : V) (cv : Value) : Prop :=
  (∃ Cl, vc = .ref Cl ∧ cv = .ref Cl ∧ mg c = some (.ref Cl)) ∨ (∃ n, vc = .ty n ∧ cv = .type n ∧ mg c = none ∧ bootBuiltins c = some (.type n) ∧ c ≠ "__name__")
structure ErrAt (T : Tab) (cmp : List Str) (K : PySem.W.Frag) (mg : Str → Option Value) : Prop where
  kn : ∀ c, T.sub c c = true → c ∈ T.cls
  obj : ∀ c, c ∈ T.cls → ∃ Cl, mg c = some (.ref Cl) ∧ ExcC K Cl
  hdl : ∀ c, c ∈ T.hcl → ∃ Ch, mg c = some (.ref Ch) ∧ ∀ c' Cl, c' ∈ T.cls → mg c' = some (.ref Cl) → PySem.W.exmOne K (.ref Cl) (.ref Ch) = some (T.sub c' c)
  isi : ∀ c, c ∈ cmp → ∃ vc cv, ClsV vc cv ∧ CName mg c vc cv ∧ ∀ c' Cl, c' ∈ T.cls → mg c' = some (.ref Cl) → PySem.W.kitOne K (.ref Cl) cv = some (T.sub c' c)
theorem CName.pe {C : Cx} {c : Str} {vc : V} {cv : Value} {p : Pos} (h : CName C.mg c vc cv) (gl : Gl C c) (hd : (c == ("__debug__" : Str)) = false) : PE C (.Name c p) (tC vc) := by
  rcases h with ⟨Cl, e1, e2, hm⟩ | ⟨n, e1, e2, hm, hb, hn⟩
  · rw [e1]
    exact pe_glob (v := .ref Cl) gl hm rfl hd
  · rw [e1]
    exact pe_bltn (v := .ty n) gl hm hb rfl hn hd
/-- isinstance(e, (c1, c2, ..)), e the error that the suite holds: the tuple that was just laid -/
def rIsET (K : PySem.W.Frag) (D a : Addr) : List V → Hp → VK → Prop := fun xs H Q => ∃ (tp : Addr) (cs : List V) (us : List Value) (b : Bool), xs = [.ref a, .ref tp] ∧ H tp = some (.tup cs) ∧ Paired ClsV cs us ∧ PySem.W.kitAny K (.ref D) us = some b ∧ Q (.bl b) H
theorem call_isET {X : Cx} {a D : Addr} {oe : Obj} {pn : List (Addr × Obj)} (C : ExcC X.K D) (hz : Zc (.ref D) none oe) (hf : ∃ vs, oe.data = .fields vs) : CallR (X.suite a ((a, oe) :: pn)) (.builtin "isinstance") (rIsET X.K D a) := by
  intro pins s σ H xs us Q I r h
  obtain ⟨tp, cs, ws, b, rfl, hT, k, e, q⟩ := h
  obtain ⟨u1, u2, rfl, r1, r2⟩ := vals2 r
  cases (show u2 = Value.ref tp from r2)
  cases (show u1 = Value.ref a from r1)
  obtain ⟨_, its, rv, o, h1, h2, n, h3⟩ := (show ObjOk X.prog X.w H s.heap tp (.tup cs) from I.hok tp _ hT)
  have e3 := ClsV.all k rv
  subst e3
  obtain ⟨oc, od, dt, sl⟩ := o
  simp only at h2 h3
  subst h2 h3
  obtain ⟨hget, _⟩ := I.pin (a, oe) (List.mem_append.mpr (.inl List.mem_cons_self))
  obtain ⟨vs, hv⟩ := hf
  have J : PySem.W.InstAt s.heap a oe D none := by
    obtain ⟨oc, od, oda, osl⟩ := oe
    obtain ⟨h1, h2⟩ := hz
    dsimp only at h1 h2 hv
    subst h1 h2 hv
    exact ⟨hget, rfl, rfl, trivial⟩
  exact PySem.W.kia_tup (PySem.W.handS_kitx_exc C.hg C.hk C.hs C.hd C.ha C.hn C.ht C.hm) I.kIn J h1 e (fun z => nomatch z) fun tk => ⟨.bl b, H, I.tok tk, rfl, q⟩

/-- which errors the suite of an except clause knows -/
def ErS (T : Tab) (mg : Str → Option Value) (a Cl : Addr) : Addr → Str → Prop := fun b c => b = a ∧ c ∈ T.cls ∧ mg c = some (.ref Cl)
section
variable {T : Tab} {cmp : List Str} {C : Cx} {a Cl : Addr} {oe : Obj} {pn : List (Addr × Obj)} {W : WX} {sc : Scope} {N : List Str}
theorem suite_isE (ea : ErrAt T cmp C.K C.mg) (ex : ExcC C.K Cl) (hz : Zc (.ref Cl) none oe) (hf : ∃ vs, oe.data = .fields vs) (blt : BltOk C) (eN : C.N = N) (es : C.env.scope = sc) {i : Nat} {c y : Str} {p q r pos : Pos} (hi : N[i]? = some y) (hv : Vis sc y)
    (hd : (y == ("__debug__" : Str)) = false) (hcd : (y == ("__classdict__" : Str)) = false) (g1 : Gl C "isinstance") (g2 : Gl C c) (hdc : (c == ("__debug__" : Str)) = false) (hc : c ∈ cmp) :
    PE (C.suite a ((a, oe) :: pn)) (.Call (.Name "isinstance" p) [.Name y q, .Name c r] [] pos) (cX (C.suite a ((a, oe) :: pn)) (ErS T C.mg a Cl) W fun e => match e[i]? with
      | some (.err c') => .ok (.val (.bl (T.sub c' c)))
      | _ => .stuck) := by
  obtain ⟨vc, cv, k1, k2, k3⟩ := ea.isi c hc
  have gs1 : Gl (C.suite a ((a, oe) :: pn)) "isinstance" := g1
  have gs2 : Gl (C.suite a ((a, oe) :: pn)) c := g2
  have k2' : CName (C.suite a ((a, oe) :: pn)).mg c vc cv := k2
  refine pe_case fun σ H Q ⟨O, e, R, hp⟩ => ⟨_, pe_callB (call_isE ex hz hf) gs1 (blt.no _ (by decide)) rfl (pa_cons (pe_var (i := i) (by show C.N[i]? = _; rw [eN]; exact hi) (by show Vis C.env.scope y; rw [es]; exact hv) hd hcd) (pa_cons (CName.pe k2' gs2 hdc) pa_nil)), ?_⟩
  dsimp only at hp
  cases qc : e[i]? with
  | none => rw [qc] at hp; exact False.elim hp
  | some x =>
    rw [qc] at hp
    cases x with
    | err c' =>
      obtain ⟨b, e1, eb, hc', hm⟩ := R.slot i _ qc
      subst eb
      have hp : PostX C.K C.mg W O σ H Q (.ok (.val (.bl (T.sub c' c)))) := hp
      refine ⟨.ref b, join_some e1, vc, cv, T.sub c' c, rfl, fun u ru => k1.eq ru, k3 c' Cl hc' hm, hp _ H (.refl H) ?_⟩
      exact (show At O H (.bl (T.sub c' c)) (.bl (T.sub c' c)) by unfold At; rfl)
    | no => exact False.elim hp
    | val d => exact False.elim hp
    | own d => exact False.elim hp
    | lent d => exact False.elim hp
    | bor d => exact False.elim hp
/-- the classes of a tuple, one by one -/
theorem cls_list (ea : ErrAt T cmp C.K C.mg) : ∀ (cs : List Str) (l : List Expr), nmsOk C.env.scope cs l = true → (∀ c, c ∈ cs → c ∈ cmp) → (∀ n, glB C.env.scope n = true → Gl C n) →
    ∃ (vs : List V) (us : List Value), Paired ClsV vs us ∧ PA C l (fun _ H Q => Q vs H) ∧ vs.length = cs.length ∧ l.all noStar = true ∧ ∀ c' Cl, c' ∈ T.cls → C.mg c' = some (.ref Cl) → PySem.W.kitAny C.K (.ref Cl) us = some (cs.any fun c => T.sub c' c)
  | [], [], _, _, _ => ⟨[], [], .nil, pa_nil, rfl, rfl, fun _ _ _ _ => kitAny_nil⟩
  | [], _ :: _, h, _, _ => by unfold nmsOk at h; cases h
  | _ :: _, [], h, _, _ => by unfold nmsOk at h; cases h
  | c :: cs, x :: l, h, hi, gl => by
    unfold nmsOk at h
    obtain ⟨h1, h2⟩ := and2 h
    obtain ⟨q, e1, g, hdb⟩ := isNm_of h1
    subst e1
    obtain ⟨vs, us, k1, k2, k3, k4, k5⟩ := cls_list ea cs l h2 (fun z hz => hi z (List.mem_cons_of_mem _ hz)) gl
    obtain ⟨vc, cv, j1, j2, j3⟩ := ea.isi c (hi c List.mem_cons_self)
    refine ⟨vc :: vs, cv :: us, .cons j1 k1, pa_cons (CName.pe j2 (gl c g) hdb) k2, by rw [List.length_cons, List.length_cons, k3], by rw [List.all_cons, k4]; rfl, fun c' Cl hc' hm => ?_⟩
    refine kitAny_cons (j3 c' Cl hc' hm) (fun e => ?_) (fun e => ?_)
    · rw [List.any_cons, e, Bool.false_or]; exact k5 c' Cl hc' hm
    · rw [List.any_cons, e, Bool.true_or]
theorem suite_isEs (ea : ErrAt T cmp C.K C.mg) (ex : ExcC C.K Cl) (hz : Zc (.ref Cl) none oe) (hf : ∃ vs, oe.data = .fields vs) (blt : BltOk C) (eN : C.N = N) (es : C.env.scope = sc) {i : Nat} {cs : List Str} {y : Str} {l : List Expr} {k : Nat} {p q r pos : Pos} (hi : N[i]? = some y) (hv : Vis sc y)
    (hd : (y == ("__debug__" : Str)) = false) (hcd : (y == ("__classdict__" : Str)) = false) (g1 : Gl C "isinstance") (hl : nmsOk sc cs l = true) (hn : cs.length ≤ 1000) (hc : ∀ c, c ∈ cs → c ∈ cmp) :
    PE (C.suite a ((a, oe) :: pn)) (.Call (.Name "isinstance" p) [.Name y q, .Tuple l k r] [] pos) (cX (C.suite a ((a, oe) :: pn)) (ErS T C.mg a Cl) W fun e => match e[i]? with
      | some (.err c') => .ok (.val (.bl (cs.any fun c => T.sub c' c)))
      | _ => .stuck) := by
  have glS : ∀ n, glB C.env.scope n = true → Gl (C.suite a ((a, oe) :: pn)) n := fun n h => by
    unfold glB at h
    split at h
    · rename_i e
      show C.env.scope.names.lookup n = _
      exact e
    · cases h
  have ea' : ErrAt T cmp (C.suite a ((a, oe) :: pn)).K (C.suite a ((a, oe) :: pn)).mg := ea
  have hl' : nmsOk (C.suite a ((a, oe) :: pn)).env.scope cs l = true := by show nmsOk C.env.scope cs l = true; rw [es]; exact hl
  obtain ⟨vs, us, k1, k2, k3, k4, k5⟩ := cls_list ea' cs l hl' hc glS
  have gs1 : Gl (C.suite a ((a, oe) :: pn)) "isinstance" := g1
  refine pe_case fun σ H Q ⟨O, e, R, hp⟩ => ⟨_, pe_callB (call_isET ex hz hf) gs1 (blt.no _ (by decide)) rfl (pa_cons (pe_var (i := i) (by show C.N[i]? = _; rw [eN]; exact hi) (by show Vis C.env.scope y; rw [es]; exact hv) hd hcd) (pa_cons (pe_tup k2) pa_nil)), ?_⟩
  dsimp only at hp
  cases qc : e[i]? with
  | none => rw [qc] at hp; exact False.elim hp
  | some x =>
    rw [qc] at hp
    cases x with
    | err c' =>
      obtain ⟨b, e1, eb, hc', hm⟩ := R.slot i _ qc
      subst eb
      have hp : PostX C.K C.mg W O σ H Q (.ok (.val (.bl (cs.any fun c => T.sub c' c)))) := hp
      exact ⟨.ref b, join_some e1, by rw [k3]; exact small_line hn, fun tp nt => ⟨tp, vs, us, _, rfl, upd_same, k1, k5 c' Cl hc' hm,
        hp _ _ (same_new nt _) res_bl⟩⟩
    | no => exact False.elim hp
    | val d => exact False.elim hp
    | own d => exact False.elim hp
    | lent d => exact False.elim hp
    | bor d => exact False.elim hp
end

/-! ### unlocked any number of times -/
inductive UlkS (C : Cx) : Hp → Hp → Prop where
  | refl (H : Hp) : UlkS C H H
  | step {H H1 H0 : Hp} (a : Ulk C H H1) (b : UlkS C H1 H0) : UlkS C H H0
theorem UlkS.inv {C : Cx} {H H0 : Hp} (k : UlkS C H H0) : ∀ {pins : List (Addr × Obj)} {σ : L2.St} {s : Shared}, Inv C pins σ H s → Inv C pins σ H0 s := by
  induction k with
  | refl => intro _ _ _ I; exact I
  | step a _ ih => intro _ _ _ I; exact ih (a.inv I)
theorem Ulk.off {C : Cx} {H H0 : Hp} (k : Ulk C H H0) {a : Addr} (h : H a = none) : H0 a = none := by
  rcases k with e | ⟨d, o, u, hd, e, _⟩
  · rw [e]; exact h
  · rw [e, upd_ne (fun z => by rw [z, hd] at h; cases h)]; exact h
theorem UlkS.off {C : Cx} {H H0 : Hp} (k : UlkS C H H0) {a : Addr} : H a = none → H0 a = none := by
  induction k with
  | refl => intro h; exact h
  | step b _ ih => intro h; exact ih (b.off h)
def ulW (C : Cx) (W : WX) : WX := fun cls d σ H => ∃ H0, UlkS C H H0 ∧ W cls d σ H0
theorem takes_ul {C : Cx} {W : WX} (tk : Takes C W) : Takes C (ulW C W) := fun u s' ⟨a, B, sI, pins, σ, H, cls, d, e, I, nb, up, sky, na, os, ag, H0, k, w⟩ =>
  tk u s' ⟨a, B, sI, pins, σ, H0, cls, d, e, k.inv I, nb, up, sky, k.off na, os, ag, w⟩
theorem uw_ul {C : Cx} {W : WX} : UW C (ulW C W) := fun _ _ _ _ _ k ⟨H0, k2, w⟩ => ⟨H0, .step k k2, w⟩

/-! ### try -/
theorem ulS_tr {C : Cx} {pn : List (Addr × Obj)} {xe : Value → Shared → Prop} {H H0 : Hp} (k : UlkS C H H0) : UlkS (C.tr pn xe) H H0 := by
  induction k with
  | refl => exact .refl _
  | step a _ ih => exact .step a ih
theorem takes_tr {C : Cx} {pn : List (Addr × Obj)} {xe : Value → Shared → Prop} {W : WX} (tk : Takes (C.tr pn xe) W) : Takes (C.tr pn xe) (ulW C W) := (takes_ul tk).imp fun _ _ _ _ ⟨H0, k, w⟩ => ⟨H0, ulS_tr k, w⟩
/-- no slot holds an error -/
def NoErr (e : En) : Prop := ∀ (i : Nat) (c : Str), e[i]? ≠ some (.err c)
section
variable {K : PySem.W.Frag} {Er Er' : Addr → Str → Prop} {O0 : Addr → Prop} {H0 H : Hp} {e : En} {σ : L2.St}
theorem Rel.noErr (ne : ∀ a c, ¬ Er a c) (R : Rel K Er O0 H0 e σ H) : NoErr e := fun i c h => by
  obtain ⟨a, _, z⟩ := R.slot i _ h
  exact ne a c z
theorem Rel.er (ne : NoErr e) (R : Rel K Er O0 H0 e σ H) : Rel K Er' O0 H0 e σ H := by
  refine ⟨R.same, R.od, R.len, fun i x h => ?_, R.dis⟩
  have q := R.slot i x h
  cases x with
  | no => exact True.intro
  | val d => exact q
  | own d => exact q
  | lent d => exact q
  | bor d => exact q
  | err d => exact absurd h (ne i d)
/-- the error in its slot -/
theorem Rel.err (ne : NoErr e) (R : Rel K Er O0 H0 e σ H) {i : Nat} {c : Str} {a : Addr} (ha : Er' a c) : Rel K Er' O0 H0 (e.set i (.err c)) (σ.set i (some (.ref a))) H := by
  have t : Tr (Ow O0 e σ) (Ow O0 (e.set i (.err c)) (σ.set i (some (.ref a)))) H H := Tr.less fun b z => (ow_set z).elim (fun z => z) fun z => by cases z.1
  exact (R.er (Er' := Er') ne).put R.same t (fun j cj b _ _ _ _ o h => h) ⟨a, rfl, ha⟩ (fun z => by cases z)
end
section
variable {e e' e2 : En} {σ σ' σ2 : L2.St} {H H' H2 : Hp}
theorem ows_err {i : Nat} {c : Str} {w : Option V} {b : Addr} (h : OwS (e.set i (.err c)) (σ.set i w) b) : OwS e σ b := (ows_set h).elim (fun z => z) fun z => by obtain ⟨⟨d, z⟩, _⟩ := z; cases z
theorem ows_no {i : Nat} {w : Option V} {b : Addr} (h : OwS (e.set i .no) (σ.set i w) b) : OwS e σ b := (ows_set h).elim (fun z => z) fun z => by obtain ⟨⟨d, z⟩, _⟩ := z; cases z
theorem get_set {c x : Cel} {i j : Nat} (h : (e.set i c)[j]? = some x) : x = c ∨ (j ≠ i ∧ e[j]? = some x) := by
  by_cases q : i = j
  · subst q
    by_cases hi : i < e.length
    · rw [List.getElem?_set_self hi] at h
      cases h
      exact .inl rfl
    · rw [List.getElem?_eq_none (by rw [List.length_set]; omega)] at h
      cases h
  · rw [List.getElem?_set_ne q] at h
    exact .inr ⟨fun z => q z.symm, h⟩
/-- over a suite that had the error in slot i -/
theorem Stp.over {i : Nat} {c : Str} {w w2 : Option V} (S : Stp (e.set i (.err c)) (σ.set i w) H e2 σ2 H2) : Stp e σ H (e2.set i .no) (σ2.set i w2) H2 := by
  refine ⟨fun b o h n => S.kept b o h fun z => n (ows_err z), fun b z => ?_, fun j d z => ?_, fun j d z => ?_⟩
  · rcases S.grow b (ows_no z) with z | z
    · exact .inl (ows_err z)
    · exact .inr z
  · rcases get_set z with z | ⟨ne, z⟩
    · cases z
    · obtain ⟨q1, q2⟩ := S.lent j d z
      rw [List.getElem?_set_ne (Ne.symm ne)] at q1 q2
      exact ⟨q1, by rw [List.getElem?_set_ne (Ne.symm ne)]; exact q2⟩
  · rcases get_set z with z | ⟨ne, z⟩
    · cases z
    · have k := S.err j d z
      rw [List.getElem?_set_ne (Ne.symm ne)] at k
      exact k
theorem NoErr.over {i : Nat} {c : Str} {w : Option V} (ne : NoErr e) (S : Stp (e.set i (.err c)) (σ.set i w) H e2 σ2 H2) : NoErr (e2.set i .no) := fun j d h => by
  rcases get_set h with z | ⟨nj, z⟩
  · cases z
  · have k := S.err j d z
    rw [List.getElem?_set_ne (Ne.symm nj)] at k
    exact ne j d k
theorem NoErr.step (ne : NoErr e) (S : Stp e σ H e2 σ2 H2) : NoErr e2 := fun j d h => ne j d (S.err j d h)
end

section
variable {T : Tab} {cmp : List Str} {C : Cx} {Er : Addr → Str → Prop} {W : WX}
/-- what the suite of an except clause does, for an error of a class that is known -/
def tSu (T : Tab) (C : Cx) (f : En → Out) : Addr → Value → Option Addr → TS := fun a cls d Z σ H => d = none ∧ ∃ Cl, cls = .ref Cl ∧ ExcC C.K Cl ∧ tS C (ErS T C.mg a Cl) (fun _ _ _ _ => False) f Z σ H
/-- a suite raises nothing -/
def Out.noX : Out → Out
  | .exc _ _ => .stuck
  | o => o
/-- the clauses, as the kit wants them -/
def evHd (call : Nat → List RV → Rs RV) (sub : Sub) (e : En) (b : Ss) : Out := (evSs call sub e b).noX
theorem post_noX {O0 : Addr → Prop} {H0 H : Hp} {e : En} {σ : L2.St} {Z : Ends} {W' : WX} : ∀ {o : Out}, PostS C Er W O0 H0 e σ H Z o.noX → PostS C Er W' O0 H0 e σ H Z o
  | .nx _, h => h
  | .ret _, h => h
  | .exc _ _, h => h.elim
  | .stuck, h => h
/-- try .. except: .. with clauses that bear no name -/
theorem c_tryy {st : Stmt} {h₀ : ExceptHandler} {hds : List ExceptHandler} {l : List (Value × (Addr → Value → Option Addr → TS))} {pos : Pos} {fb : En → Out} {fh : Str → En → Out}
    (hs : C.stack = C.env :: C.outer) (hf : C.env.frame = some C.env.locals) (tk : Takes C W) (ne : ∀ a c, ¬ Er a c)
    (hb : ∀ (W' : WX) (pn : List (Addr × Obj)) (xe : Value → Shared → Prop), Takes (C.tr pn xe) W' → UW C W' → PassesOwn (model C.prog C.w) C.A C.env xe → PS (C.tr pn xe) st (tS C Er W' fb))
    (hh : HdsOk C (h₀ :: hds) l)
    (hw : ∀ (Z : Ends) (O0 : Addr → Prop) (H0 : Hp) (c : Str) (cv : Value) (e : En) (σ : L2.St) (H : Hp), C.mg c = some cv → NoErr e → Rel C.K Er O0 H0 e σ H → PostS C Er W O0 H0 e σ H Z (fh c e) → wMany C.K W Z l cv none σ H) :
    PS C (.Try [st] (h₀ :: hds) [] [] pos) (tS C Er W fun e => match fb e with
      | .exc c e' => fh c e'
      | o => o) := by
  refine ps_case fun Z σ H ⟨O0, H0, e, R, hp⟩ => ⟨_, ps_try_many (tb := fun W' => tS C Er (ulW C W') fb) hs hf tk (fun W' pn xe tk' po => pss_one (hb (ulW C W') pn xe (takes_tr tk') uw_ul po)) hh, ?_⟩
  refine ⟨O0, H0, e, R, ?_⟩
  dsimp only at hp
  cases q : fb e with
  | nx e' => rw [q] at hp; exact hp
  | ret r => rw [q] at hp; exact hp
  | stuck => rw [q] at hp; exact hp
  | exc c e' =>
    rw [q] at hp
    have hp : PostS C Er W O0 H0 e σ H Z (fh c e') := hp
    exact fun cv σ' H' m R' S' => ⟨H', .refl H', hw Z O0 H0 c cv e' σ' H' m (R'.noErr ne) R' (PostS.from S' hp)⟩
/-- the same end where no slot holds an error -/
theorem post_er {Er' : Addr → Str → Prop} {W' : WX} {O0 : Addr → Prop} {H0 H : Hp} {e : En} {σ : L2.St} {Z : Ends} (ne : NoErr e) : ∀ {o : Out}, PostS C Er W O0 H0 e σ H Z o.noX → PostS C Er' W' O0 H0 e σ H Z o
  | .nx _, h => fun σ' H' R S => h σ' H' (R.er (ne.step S)) S
  | .ret _, h => h
  | .exc _ _, h => h.elim
  | .stuck, h => h
/-- an error's slot, around a suite -/
def Out.un (i : Nat) : Out → Out
  | .nx e => .nx (e.set i .no)
  | .exc _ _ => .stuck
  | o => o
theorem post_as {Er' : Addr → Str → Prop} {W' : WX} {O0 : Addr → Prop} {H0 H : Hp} {e : En} {σ : L2.St} {Z : Ends} {i : Nat} {c : Str} {a : Addr} (ne : NoErr e) : ∀ {o : Out}, PostS C Er W O0 H0 e σ H Z (o.un i) →
    PostS C Er' W' O0 H0 (e.set i (.err c)) (σ.set i (some (.ref a))) H { nx := fun σ' H' => Z.nx (σ'.set i none) H', rt := Z.rt, bk := fun σ' H' => Z.bk (σ'.set i none) H', ct := fun σ' H' => Z.ct (σ'.set i none) H' } o
  | .nx e2, h => fun σ2 H2 R S => h (σ2.set i none) H2 ((R.drop i none).1.er (ne.over S)) S.over
  | .ret _, h => fun v H' s r k => h v H' s r fun b o q n => k b o q fun z => n (ows_err z)
  | .exc _ _, h => h.elim
  | .stuck, h => h
/-- try .. except c as y: suite -/
theorem c_tryAs {st b₀ : Stmt} {suite : List Stmt} {y : Str} {i : Nat} {Ch : Addr} {np pos' pos : Pos} {fb fs : En → Out} {c : Str}
    (hs : C.stack = C.env :: C.outer) (hf : C.env.frame = some C.env.locals) (nd : C.N.Nodup) (hi : C.N[i]? = some y) (hl : C.env.scope.names.lookup y = some .local) (tk : Takes C W) (ne : ∀ a c, ¬ Er a c)
    (hc : Names C c (.ref Ch)) (kn : ∀ c, T.sub c c = true → c ∈ T.cls) (ob : ∀ c, c ∈ T.cls → ∃ Cl, C.mg c = some (.ref Cl) ∧ ExcC C.K Cl) (hx : ∀ c' Cl, c' ∈ T.cls → C.mg c' = some (.ref Cl) → PySem.W.exmOne C.K (.ref Cl) (.ref Ch) = some (T.sub c' c))
    (hb : ∀ (W' : WX) (pn : List (Addr × Obj)) (xe : Value → Shared → Prop), Takes (C.tr pn xe) W' → UW C W' → PassesOwn (model C.prog C.w) C.A C.env xe → PS (C.tr pn xe) st (tS C Er W' fb))
    (hsu : ∀ (a : Addr) (oe : Obj) (cls : Value) (d : Option Addr) (pn : List (Addr × Obj)), Zc cls d oe → (∃ vs, oe.data = .fields vs) → PSs (C.suite a ((a, oe) :: pn)) (b₀ :: suite) (tSu T C fs a cls d)) :
    PS C (.Try [st] [.ExceptHandler (some (.Name c np)) (some y) (b₀ :: suite) pos'] [] [] pos) (tS C Er W fun e => match fb e with
      | .exc c' e' => if T.sub c' c' = true then (if T.sub c' c = true then (fs (e'.set i (.err c'))).un i else .exc c' e') else .stuck
      | o => o) := by
  refine ps_case fun Z σ H ⟨O0, H0, e, R, hp⟩ => ⟨_, ps_try_as (tb := fun W' => tS C Er (ulW C W') fb) hs hf nd hi hl hc tk (fun W' pn xe tk' po => pss_one (hb (ulW C W') pn xe (takes_tr tk') uw_ul po)) hsu, ?_⟩
  refine ⟨O0, H0, e, R, ?_⟩
  dsimp only at hp
  cases q : fb e with
  | nx e' => rw [q] at hp; exact hp
  | ret r => rw [q] at hp; exact hp
  | stuck => rw [q] at hp; exact hp
  | exc c' e' =>
    rw [q] at hp
    have hp : PostS C Er W O0 H0 e σ H Z (if T.sub c' c' = true then (if T.sub c' c = true then (fs (e'.set i (.err c'))).un i else .exc c' e') else .stuck) := hp
    by_cases q1 : T.sub c' c' = true
    · rw [if_pos q1] at hp
      obtain ⟨Cl, m1, ex⟩ := ob c' (kn c' q1)
      refine fun cv σ' H' m R' S' => ⟨H', .refl H', T.sub c' c, ?_, fun q2 a _ => ?_, fun q2 => ?_⟩
      · rw [m1] at m
        cases m
        exact hx c' Cl (kn c' q1) m1
      · rw [m1] at m
        cases m
        rw [if_pos q2] at hp
        have ne' := R'.noErr ne
        exact ⟨rfl, Cl, rfl, ex, O0, H0, e'.set i (.err c'), R'.err ne' ⟨rfl, kn c' q1, m1⟩, post_as ne' (PostS.from S' hp)⟩
      · rw [if_neg (by rw [q2]; decide)] at hp
        exact hp cv σ' H' m R' S'
    · rw [if_neg q1] at hp
      exact False.elim (show False from hp)
end
end Ev
set_option Elab.async false
set_option linter.all false
set_option maxRecDepth 100000
set_option maxHeartbeats 8000000
set_option autoImplicit false
/-! The walk of every statement. -/
namespace Ev
open PySem PySem.Spec PyProof.Rows L2

/-- what a statement's surroundings give -/
structure Sok (T : Tab) (cons : List (Str × Int)) (cmp : List Str) (n : Nat) (hot : Bool) (Er : Addr → Str → Prop) (W : WX) (C : Cx) (sc : Scope) (N : List Str) : Prop where
  K : Cok T cons cmp n hot Er W C sc N
  fn : ∀ y, C.fn y = true
  uw : UW C W
  po : hot = false → PassesOwn (model C.prog C.w) C.A C.env C.xe
  exc : ∀ (c m : Str) (j : Nat) (p p2 pos : Pos), c ∈ T.cls → ∃ Cl, C.mg c = some (.ref Cl) ∧ ∀ C' : Cx, C'.K = C.K → C'.mg = C.mg → Gl C' c → PMk C' (.Call (.Name c p) [.Constant (.str m) j p2] [] pos) (fun _ H Q => Q (.ref Cl) none H)
  ea : ErrAt T cmp C.K C.mg
  stk : hot = false → C.stack = C.env :: C.outer
  frm : hot = false → C.env.frame = some C.env.locals
  ner : hot = false → ∀ a c, ¬ Er a c
section
variable {T : Tab} {cons : List (Str × Int)} {cmp : List Str} {n : Nat}
theorem ev_walk {it : It} {e : En} {its : List D} (h : evIt (callN T n) T.sub e it = .ok its) {j : Nat} (hj : itVars it j) : walkable (e[j]?) := by
  have one : ∀ {a : X} {r : RV}, (fx T n a e).bind (itR a) = .ok r → isV a j → walkable (e[j]?) := fun {a r} q v => by
    cases a <;> first
      | exact v.elim
      | skip
    rename_i i
    have v : i = j := v
    subst v
    have q : (evX (callN T n) T.sub e (.var i)).bind _ = .ok r := q
    unfold evX at q
    cases z : e[i]? with
    | none => rw [z] at q; exact (stuck_no q).elim
    | some c =>
      rw [z] at q
      cases c with
      | no => exact (stuck_no q).elim
      | err c => exact (stuck_no q).elim
      | val d => exact .inl ⟨d, rfl⟩
      | own d => exact .inr (.inl ⟨d, rfl⟩)
      | lent d => exact .inr (.inr (.inl ⟨d, rfl⟩))
      | bor d => exact .inr (.inr (.inr ⟨d, rfl⟩))
  cases it with
  | ex a =>
    unfold evIt at h
    obtain ⟨r, q, _⟩ := bind_ok_eq h
    exact one q hj
  | range a => exact hj.elim
  | enum a =>
    unfold evIt at h
    obtain ⟨r, q, _⟩ := bind_ok_eq h
    exact one q hj
  | zip a b =>
    unfold evIt at h
    obtain ⟨r, q, h2⟩ := bind_ok_eq h
    obtain ⟨r2, q2, _⟩ := bind_ok_eq h2
    rcases hj with hj | hj
    · exact one q hj
    · exact one q2 hj
  | rev a =>
    unfold evIt at h
    obtain ⟨r, q, _⟩ := bind_ok_eq h
    exact one q hj
section
variable {Er : Addr → Str → Prop} {W : WX} {C : Cx} {sc : Scope} {N : List Str} {hot : Bool}
theorem c_raise {c m : Str} {j : Nat} {p p2 pos pos2 : Pos} (hc : C.calm = true) (tk : Takes C W) {Cl : Addr} (hm : C.mg c = some (.ref Cl)) (mk : PMk C (.Call (.Name c p) [.Constant (.str m) j p2] [] pos) (fun _ H Q => Q (.ref Cl) none H)) :
    PS C (.Raise (some (.Call (.Name c p) [.Constant (.str m) j p2] [] pos)) none pos2) (tS C Er W fun e => .exc c e) :=
  ps_case fun Z σ H ⟨O0, H0, e, R, hp⟩ => ⟨_, ps_raise hc tk mk, hp _ σ H hm R .refl⟩
/-- a name as it is written -/
theorem var_of (K : Cok T cons cmp n hot Er W C sc N) {i : Nat} {e : Expr} (h : chkX (nmsT T) cons N cmp sc hot (.var i) e = true) :
    ∃ y p, e = .Name y p ∧ C.N[i]? = some y ∧ Vis C.env.scope y ∧ (y == ("__debug__" : Str)) = false ∧ (y == ("__classdict__" : Str)) = false := by
  unfold chkX at h
  split at h
  · rename_i y q
    obtain ⟨h1, h2⟩ := and2 h
    obtain ⟨h3, h4⟩ := and2 h1
    have h5 := of_decide_eq_true h3
    exact ⟨y, q, rfl, by rw [K.eN]; exact h5, by rw [K.es]; exact vis_of h4, (dbg_of h2).1, (dbg_of h2).2⟩
  · cases h
theorem ret_ok (K : Cok T cons cmp n hot Er W C sc N) (a : X) {e : Expr} {pos : Pos} (h : chkX (nmsT T) cons N cmp sc hot a e = true) : PS C (.Return (some e) pos) (tS C Er W fun en => ((fx T n a en).bind (retR en a)).out en fun r => .ret r) := by
  cases a with
  | var i =>
    obtain ⟨y, p, e1, hN, hv, hd, hcd⟩ := var_of K h
    subst e1
    have e3 : (fun en => ((fx T n (.var i) en).bind (retR en (.var i))).out en fun r => Out.ret r) = fun (en : En) => ((match en[i]? with
      | some (.val d) => Rs.ok (.val d)
      | some (.own d) => .ok (.bor d)
      | some (.lent d) => .ok (.bor d)
      | some (.bor d) => .ok (.bor d)
      | _ => .stuck : Rs RV).bind (retR en (.var i))).out en fun r => .ret r := by
      funext en
      show ((evX (callN T n) T.sub en (.var i)).bind _).out en _ = _
      unfold evX
      rfl
    rw [e3]
    exact c_ret_var hN hv hd hcd
  | _ => exact c_ret_data (fun i z => by cases z) (x_ok _ K h).1
theorem swapped_two {x y : Str} {px py pt p2 : Pos} {kt k2 : Nat} {a b : Expr} {env : PySem.Env} (hk : env.scope.kind = .function) (hx : env.scope.names.lookup x = some .local) (hy : env.scope.names.lookup y = some .local) (ne : x ≠ y) (hl : (py.line == px.line) = true)
    (ns : noStar a = true) (nt : noStar b = true) (hf : (foldedForSure 8 a && foldedForSure 8 b) = false) (hc : (constantsAlone 8 a && constantsAlone 8 b) = false) :
    swappedStores [.Tuple [.Name x px, .Name y py] kt pt] (.Tuple [a, b] k2 p2) env = pure (some [x, y]) := by
  have hb : env.blockKind = .function := by unfold Env.blockKind; rw [hk]; rfl
  have n1 : (y == x) = false := beq_eq_false_iff_ne.mpr (Ne.symm ne)
  have n2 : (x == y) = false := beq_eq_false_iff_ne.mpr ne
  have k1 : env.kindOf x = some .local := hx
  have k2' : env.kindOf y = some .local := hy
  have l2 : py.line = px.line := eq_of_beq hl
  unfold swappedStores
  simp [hb, k1, k2', hl, l2, n1, n2, hf, hc, List.eraseDups_cons, Expr.pos]
  intro h
  exfalso
  rcases h with h | h
  · cases a <;> first
      | exact absurd (show false = true from h) (by decide)
      | exact absurd (show false = true from ns) (by decide)
  · cases b <;> first
      | exact absurd (show false = true from h) (by decide)
      | exact absurd (show false = true from nt) (by decide)
theorem c_asg2 {f g : En → Rs RV} {a b : Expr} {i j : Nat} {x y : Str} {px py pt p2 pos : Pos} {kt k2 : Nat} (hc : C.calm = true) (nd : C.N.Nodup) (hi : C.N[i]? = some x) (hj : C.N[j]? = some y) (hij : i ≠ j) (hx : C.env.scope.names.lookup x = some .local) (hy : C.env.scope.names.lookup y = some .local)
    (ha : PE C a (cX C Er W f)) (hb : PE C b (cX C Er W g)) (ns : noStar a = true) (nt : noStar b = true)
    (hw : swappedStores [.Tuple [.Name x px, .Name y py] kt pt] (.Tuple [a, b] k2 p2) C.env = pure (some [x, y])) :
    PS C (.Assign [.Tuple [.Name x px, .Name y py] kt pt] (.Tuple [a, b] k2 p2) pos) (tS C Er W fun e => ((f e).bind fun x => (g e).bind fun y => (giveS x).bind fun s => (flatR y).bind fun u => .ok (s, u)).out e fun p => .nx ((e.set i p.1).set j p.2)) :=
  ps_case fun Z σ H ⟨O0, H0, e, R, hp⟩ => by
    refine ⟨_, ps_par hc nd hi hj hij hx hy (c_cons ha (c_cons hb c_nil nt) ns) hw, ?_⟩
    refine ⟨_, e, R.see, ?_⟩
    dsimp only at hp ⊢
    cases qf : f e with
    | stuck => rw [qf] at hp; exact hp
    | exc c => rw [qf] at hp; exact (wants_S (B := En) (g := fun e => Out.nx e) R).exc hp
    | ok r =>
      rw [qf] at hp
      cases qg : g e with
      | stuck => rw [qg] at hp; exact hp
      | exc c => rw [qg] at hp; exact (wants_S (B := En) (g := fun e => Out.nx e) R).exc hp
      | ok q =>
        rw [qg] at hp
        intro vs H1 s1 l
        obtain ⟨v, t, e1, a1, w, t', e2, a2, e3⟩ := l
        have e3 : t' = [] := e3
        subst e3 e2 e1
        refine ⟨v, w, rfl, ?_⟩
        cases q1 : giveS r with
        | stuck => rw [bind_ok, bind_ok, q1] at hp; exact False.elim (show False from hp)
        | exc c => cases r <;> cases q1
        | ok c =>
          rw [bind_ok, bind_ok, q1, bind_ok] at hp
          cases q with
          | own d => exact False.elim (show False from hp)
          | bor d => exact False.elim (show False from hp)
          | val d =>
            by_cases fl : d.flat = true
            · have e4 : flatR (.val d) = .ok (.val d) := by show (if d.flat = true then Rs.ok (Cel.val d) else Rs.stuck) = _; rw [if_pos fl]
              rw [e4] at hp
              have k := R.give (i := i) s1 a1 q1
              have a3 : ResOk C.K (Ow O0 (e.set i c) (σ.set i (some v))) H1 H1 (.val d) w := by
                cases d <;> first
                  | exact a2
                  | cases fl
              have k2 := k.1.give (i := j) (.refl H1) (r := .val d) a3 rfl
              exact hp _ _ k2.1 (k.2.trans k2.2)
            · have e4 : flatR (.val d) = .stuck := by show (if d.flat = true then Rs.ok (Cel.val d) else Rs.stuck) = _; rw [if_neg fl]
              rw [e4] at hp
              exact False.elim (show False from hp)
/-- the body of a try -/
theorem Sok.tr {W' : WX} {pn : List (Addr × Obj)} {xe : Value → Shared → Prop} (K : Sok T cons cmp n false Er W C sc N) (tk : Takes (C.tr pn xe) W') (uw : UW C W') (po : PassesOwn (model C.prog C.w) C.A C.env xe) : Sok T cons cmp n false Er W' (C.tr pn xe) sc N :=
  ⟨⟨K.K.es, K.K.eN, K.K.nd, K.K.un, K.K.calm, K.K.guards, K.K.room, K.K.sys, ⟨K.K.blt.no⟩, K.K.consG, K.K.fns, tk, (fun z => by cases z), (fun z => by cases z)⟩, K.fn, uw, fun _ => po, K.exc, K.ea, K.stk, K.frm, K.ner⟩
/-- the suite of an except clause -/
theorem Sok.suite {a Cl : Addr} {oe : Obj} {pn : List (Addr × Obj)} (K : Sok T cons cmp n false Er W C sc N) (ex : ExcC C.K Cl) (hz : Zc (.ref Cl) none oe) (hf : ∃ vs, oe.data = .fields vs) : Sok T cons cmp n true (ErS T C.mg a Cl) (fun _ _ _ _ => False) (C.suite a ((a, oe) :: pn)) sc N :=
  ⟨⟨K.K.es, K.K.eN, K.K.nd, K.K.un, (fun z => by cases z), (fun z => by cases z), (fun z => by cases z), K.K.sys, ⟨K.K.blt.no⟩, K.K.consG, K.K.fns, takes_none5,
    fun _ i c y p q r pos hi hv hd hcd g1 g2 hdc hc => suite_isE (T := T) K.ea ex hz hf K.K.blt K.K.eN K.K.es hi hv hd hcd g1 g2 hdc hc,
    fun _ i cs y l k p q r pos hi hv hd hcd g1 hl hn hc => suite_isEs (T := T) K.ea ex hz hf K.K.blt K.K.eN K.K.es hi hv hd hcd g1 hl hn hc⟩, K.fn, fun _ _ _ _ _ _ z => z, (fun z => by cases z), K.exc, K.ea, (fun z => by cases z), (fun z => by cases z), (fun z => by cases z)⟩
/-- a name is given a list that is made by a comprehension on its line -/
theorem c_setcomp {elt t it : Expr} {cs : List Expr} {scope : Scope} {pos spos py : Pos} {y : Str} {i : Nat} {tg : List Nat} {own : List (Str × Nat)} {vars : Nat → Prop} {fit : En → Rs (List D)} {fc fe : En → Rs RV} {W' : WX}
    (hc : C.calm = true) (hN : C.N.Nodup) (hy : C.N[i]? = some y) (hyl : C.env.scope.names.lookup y = some .local) (hsw : swapsWith (.ListComp elt [⟨t, it, cs, 0⟩] scope pos) (some (.Name y py)) spos.line C.env = pure true)
    (hi : PI C t it (cI C Er W vars fit)) (ok : BlkOk C.N C.env.scope scope own) (ho : own.map (·.2) = tg)
    (hg : ∀ (s : Shared) (H : Hp) (Cl : Addr) (cl : List (Str × Addr)) (fp : List Addr), PG (C.blk s H scope (compEnvC scope cl Cl C.env) fp) t (tgG C.K tg))
    (ht : ∀ (s : Shared) (H : Hp) (Cl : Addr) (cl : List (Str × Addr)) (fp : List Addr), PTs (C.blk s H scope (compEnvC scope cl Cl C.env) fp) cs (Ev.tT C.K C.mg Er W' fun e => (fc e).bind asBl))
    (he : ∀ (s : Shared) (H : Hp) (Cl : Addr) (cl : List (Str × Addr)) (fp : List Addr), PE (C.blk s H scope (compEnvC scope cl Cl C.env) fp) elt (Ev.tX C.K C.mg Er W' fe))
    (hs : ∀ x, foldedSetIterable it C.env x = pure x) :
    PS C (.Assign [.Name y py] (.ListComp elt [⟨t, it, cs, 0⟩] scope pos) spos) (tS C Er W fun e => (((fit e).bind fun its => if its.length ≤ lim then (compL (one tg fc fe e) its).bind fun l => .ok (.own (.lst l)) else .stuck).bind giveS).out e fun s => .nx (e.set i s)) :=
  ps_case fun Z σ H ⟨O0, H0, e, R, hp⟩ => ⟨_, ps_cl (ps_setLc hc hN hy hyl hsw hi ok hg ht he hs), by
    refine comp_run (Q := fun v H1 => Z.nx (σ.set i (some v)) H1) ho R.see ?_
    dsimp only at hp
    cases q : ((fit e).bind fun its => if its.length ≤ lim then (compL (one tg fc fe e) its).bind fun l => Rs.ok (RV.own (D.lst l)) else .stuck) with
    | stuck => rw [q] at hp; exact hp
    | exc c => rw [q] at hp; exact (wants_S (B := En) (g := fun e => Out.nx e) R).exc hp
    | ok r =>
      rw [q] at hp
      intro v H1 s1 a1
      cases q1 : giveS r with
      | stuck => rw [bind_ok, q1] at hp; exact False.elim (show False from hp)
      | exc c => cases r <;> cases q1
      | ok c =>
        rw [bind_ok, q1] at hp
        have k := R.give (i := i) s1 a1 q1
        exact hp _ _ k.1 k.2⟩
theorem setcomp_ok (K : Sok T cons cmp n false Er W C sc N) {i : Nat} {x : X} {y : Str} {py spos : Pos} {e : Expr} (h1 : stB N sc i y = true) (h2 : cmpB sc y py e = true) (h : chkX (nmsT T) cons N cmp sc false x e = true) :
    PS C (.Assign [.Name y py] e spos) (tS C Er W fun en => ((fx T n x en).bind giveS).out en fun s => .nx (en.set i s)) := by
  unfold cmpB at h2
  split at h2
  · rename_i elt gs scope p
    obtain ⟨h3, hz4⟩ := and2 h2
    obtain ⟨h5, hz6⟩ := and2 h3
    obtain ⟨h7, h8⟩ := and2 h5
    have fk : sc.kind = .function := by
      split at h7
      · assumption
      · cases h7
    have hl := of_decide_eq_true h8
    unfold stB at h1
    obtain ⟨n1, _⟩ := and2 h1
    cases x with
    | comp elt' tg it cond =>
      unfold chkX at h
      split at h
      · rename_i x' t i' cs scope' p' eq
        cases eq
        obtain ⟨h1, h2⟩ := and2 h
        obtain ⟨h3, h4⟩ := and2 h1
        obtain ⟨h5, h6'⟩ := and2 h3
        obtain ⟨h7, h8'⟩ := and2 h5
        obtain ⟨h9, h10⟩ := and2 h7
        obtain ⟨h11, h12⟩ := and2 h9
        obtain ⟨h13, h14⟩ := and2 h11
        have bo := blkOk_by h14
        have KB := K.K.blk scope
        have g := c_setcomp (Er := Er) (W := W) (cs := cs) (elt := elt) (pos := p) (spos := spos) (py := py) (i := i) (y := y) (W' := fun _ _ _ _ => False) (fc := fx T n cond) (fe := fx T n elt') (K.K.calm rfl) (by rw [K.K.eN]; exact K.K.nd) (by rw [K.K.eN]; exact of_decide_eq_true n1) (by rw [K.K.es]; exact hl)
          (sw_true (by rw [K.K.es]; exact fk) (by rw [K.K.es]; exact hl) hz6 ((Bool.not_eq_true' _).mp hz4)) (it_ok it K.K h6' h8') (by rw [K.K.eN, K.K.es]; exact bo) (own_tg h12) (fun s H Cl cl fp => by
            have k := KB s H Cl cl fp
            refine pg_tg (k.calm rfl) (by rw [k.eN]; exact k.nd) k.eN k.es (fun y hy => ?_) h12
            have z := List.all_eq_true.mp h10 y hy
            unfold locB at z
            split at z
            · rename_i e1
              refine .inr ?_
              rw [k.es]
              exact lookup_relS_keep (by intro q; cases q) e1
            · rename_i e1
              refine .inl ?_
              show (scope.names.lookup y == some .cell) = true
              rw [e1]
              rfl
            · cases z) (fun s H Cl cl fp => ?_) (fun s H Cl cl fp => (x_ok elt' (KB s H Cl cl fp) h4).1) (noSet h6' _)
        · have e1 : (fun en => ((fx T n (.comp elt' tg it cond) en).bind giveS).out en fun s => Out.nx (List.set en i s)) = fun e => (((evIt (callN T n) T.sub e it).bind fun its => if its.length ≤ lim then (compL (one tg (fx T n cond) (fx T n elt') e) its).bind fun l => Rs.ok (RV.own (D.lst l)) else Rs.stuck).bind giveS).out e fun s => .nx (List.set e i s) := by
            funext en
            show ((evX (callN T n) T.sub en (.comp elt' tg it cond)).bind giveS).out en _ = _
            unfold evX
            rfl
          rw [e1]
          exact g
        · have k := KB s H Cl cl fp
          split at h2
          · split at h2
            · exact pts_case fun σ H2 Q ⟨O, e, R, hp⟩ => ⟨_, pts_nil, hp H2 (.refl H2)⟩
            · cases h2
          · obtain ⟨k1, k2⟩ := and2 h2
            exact pts_one ((x_ok cond k k2).2 k1)
          · cases h2
      · cases h
    | _ => (unfold chkX at h; first | (cases h; done) | (split at h <;> first | (rename_i eq; cases eq; done) | (cases h; done)))
  · cases h2
mutual
theorem s_ok : ∀ (s : S) {Er : Addr → Str → Prop} {W : WX} {C : Cx} {sc : Scope} {N : List Str} {hot : Bool} {st : Stmt}, Sok T cons cmp n hot Er W C sc N → chkS (nmsT T) cons N cmp T.cls T.hcl sc hot s st = true → PS C st (tS C Er W fun e => evS (callN T n) T.sub e s)
  | .asg i x, Er, W, C, sc, N, hot, st, K, h => by
    unfold chkS at h
    split at h
    · obtain ⟨h1, h2⟩ := and2 h
      obtain ⟨h3, h4⟩ := and2 h1
      rcases (Bool.or_eq_true _ _).mp h4 with h5 | h5
      · exact c_asg K.K.eN K.K.es K.K.nd K.fn (x_ok x K.K h2).1 h3 h5
      · obtain ⟨h6, h7⟩ := and2 h5
        have hh := (Bool.not_eq_true' _).mp h6
        subst hh
        have e1 : (fun e => evS (callN T n) T.sub e (.asg i x)) = fun en => ((fx T n x en).bind giveS).out en fun s => .nx (List.set en i s) := by
          funext e
          conv => lhs; unfold evS
        rw [e1]
        exact setcomp_ok K h3 h7 h2
    · cases h
  | .asg2 i j a b, Er, W, C, sc, N, hot, st, K, h => by
    unfold chkS at h
    split at h
    · obtain ⟨h1, h2⟩ := and2 h
      obtain ⟨h3, h4⟩ := and2 h1
      obtain ⟨h5, h6⟩ := and2 h3
      have hh := (Bool.not_eq_true' _).mp h6
      subst hh
      unfold twoB at h5
      simp only [Bool.and_eq_true, decide_eq_true_eq, Bool.not_eq_true'] at h5
      obtain ⟨⟨⟨⟨⟨⟨⟨⟨⟨d1, d2⟩, d3⟩, d4⟩, d5⟩, d6⟩, d7⟩, d8⟩, d9⟩, d10⟩ := h5
      have fk : sc.kind = .function := by
        split at d7
        · assumption
        · cases d7
      have ns := star_of h4
      have nt := star_of h2
      exact c_asg2 (K.K.calm rfl) (by rw [K.K.eN]; exact K.K.nd) (by rw [K.K.eN]; exact d1) (by rw [K.K.eN]; exact d2) d3 (by rw [K.K.es]; exact d5) (by rw [K.K.es]; exact d6) (x_ok a K.K h4).1 (x_ok b K.K h2).1 ns nt
        (swapped_two (by rw [K.K.es]; exact fk) (by rw [K.K.es]; exact d5) (by rw [K.K.es]; exact d6) d4 d8 ns nt d9 d10)
    · cases h
  | .setI i k v, Er, W, C, sc, N, hot, st, K, h => by
    unfold chkS at h
    split at h
    · obtain ⟨h1, h2⟩ := and2 h
      obtain ⟨h3, h4⟩ := and2 h1
      obtain ⟨h5, h6⟩ := and2 h3
      obtain ⟨h7, h8⟩ := and2 h5
      obtain ⟨y, p, e1, hN, hv, hd, hcd⟩ := var_of K.K h8
      subst e1
      exact c_setI K.K.un hN hv hd hcd (x_ok k K.K h4).1 (x_ok v K.K h2).1 h7 h6
    · cases h
  | .app i x, Er, W, C, sc, N, hot, st, K, h => by
    unfold chkS at h
    split at h
    · obtain ⟨h1, h2⟩ := and2 h
      obtain ⟨h3, h4⟩ := and2 h1
      obtain ⟨h5, h6⟩ := and2 h3
      obtain ⟨h7, h8⟩ := and2 h5
      have en := of_decide_eq_true h7
      subst en
      obtain ⟨y, p, e1, hN, hv, hd, hcd⟩ := var_of K.K h4
      subst e1
      exact c_app hN hv hd hcd (x_ok x K.K h2).1 (star_of h2) h6
    · cases h
  | .popk i x, Er, W, C, sc, N, hot, st, K, h => by
    unfold chkS at h
    split at h
    · obtain ⟨h1, h2⟩ := and2 h
      obtain ⟨h3, h4⟩ := and2 h1
      obtain ⟨h5, h6⟩ := and2 h3
      obtain ⟨h7, h8⟩ := and2 h5
      have en := of_decide_eq_true h7
      subst en
      obtain ⟨y, p, e1, hN, hv, hd, hcd⟩ := var_of K.K h4
      subst e1
      exact c_popk hN hv hd hcd (x_ok x K.K h2).1 (star_of h2) h6
    · cases h
  | .expr x, Er, W, C, sc, N, hot, st, K, h => by
    unfold chkS at h
    split at h
    · obtain ⟨h1, h2⟩ := and2 h
      exact c_expr (x_ok x K.K h1).1 h2
    · cases h
  | .ifs t a b, Er, W, C, sc, N, hot, st, K, h => by
    unfold chkS at h
    split at h
    · obtain ⟨h1, h2⟩ := and2 h
      obtain ⟨h3, h4⟩ := and2 h1
      obtain ⟨h5, h6⟩ := and2 h3
      exact c_if ((x_ok t K.K h6).2 h5) (ss_ok a K h4) (ss_ok b K h2)
    · cases h
  | .forr tg it b, Er, W, C, sc, N, hot, st, K, h => by
    unfold chkS at h
    split at h
    · obtain ⟨h1, h2⟩ := and2 h
      obtain ⟨h3, h4⟩ := and2 h1
      obtain ⟨h5, h6⟩ := and2 h3
      obtain ⟨h7, h8⟩ := and2 h5
      have hh := (Bool.not_eq_true' _).mp h7
      subst hh
      exact c_for (K.po rfl) (K.K.calm rfl) K.uw (it_ok it K.K h4 h6) (pg_tg (K.K.calm rfl) (by rw [K.K.eN]; exact K.K.nd) K.K.eN K.K.es (fun y _ => .inl (K.fn y)) h8) (ss_ok b K h2) (noSet h4 _) (fun e its q j hj => ev_walk q hj)
    · cases h
  | .ret x, Er, W, C, sc, N, hot, st, K, h => by
    unfold chkS at h
    split at h
    · exact ret_ok K.K x h
    · cases x <;> first
        | (cases h; done)
        | exact c_retN
    · cases h
  | .rais c, Er, W, C, sc, N, hot, st, K, h => by
    unfold chkS at h
    split at h
    · obtain ⟨h1, h2⟩ := and2 h
      obtain ⟨h3, h4⟩ := and2 h1
      have hh := (Bool.not_eq_true' _).mp h3
      subst hh
      obtain ⟨q, e1, gl, _⟩ := isNm_of h4
      subst e1
      obtain ⟨Cl, hm, mk⟩ := K.exc _ _ _ _ _ _ (of_decide_eq_true h2)
      exact c_raise (K.K.calm rfl) K.K.tk hm (mk C rfl rfl (gl_of K.K gl))
    · cases h
  | .tryy b hs, Er, W, C, sc, N, hot, st, K, h => by
    unfold chkS at h
    split at h
    · rename_i st1 hds1 ps1
      obtain ⟨h1, h2⟩ := and2 h
      obtain ⟨h3, h4⟩ := and2 h1
      obtain ⟨h5, h6⟩ := and2 h3
      have hh := (Bool.not_eq_true' _).mp h5
      subst hh
      obtain ⟨l, k1, k2⟩ := hs_ok hs K h4
      cases hds1 with
      | nil => cases h2
      | cons h₀ hds =>
        have g := c_tryy (pos := ps1) (Er := Er) (fb := fun e => evS (callN T n) T.sub e b) (fh := fun c e => if T.sub c c = true then evHs (callN T n) T.sub e c hs else .stuck) (K.stk rfl) (K.frm rfl) K.K.tk (K.ner rfl)
          (fun W' pn xe tk uw po => s_ok b (K.tr tk uw po) h6) k1 (fun Z O0 H0 c cv e σ H m ne R hp => by
            by_cases q : T.sub c c = true
            · rw [if_pos q] at hp
              exact k2 Z O0 H0 c cv e σ H q m ne R hp
            · rw [if_neg q] at hp
              exact False.elim (show False from hp))
        have e1 : (fun e => evS (callN T n) T.sub e (.tryy b hs)) = fun e => match evS (callN T n) T.sub e b with
          | .exc c e' => if T.sub c c = true then evHs (callN T n) T.sub e' c hs else .stuck
          | o => o := by
          funext e
          conv => lhs; unfold evS
          first | done | rfl
        rw [e1]
        exact g
    · cases h
  | .tryAs b c i hd, Er, W, C, sc, N, hot, st, K, h => by
    unfold chkS at h
    split at h
    · obtain ⟨h1, h2⟩ := and2 h
      obtain ⟨h3, h4⟩ := and2 h1
      obtain ⟨h5, h6⟩ := and2 h3
      obtain ⟨h7, h8⟩ := and2 h5
      obtain ⟨h9, h10⟩ := and2 h7
      obtain ⟨h11, h12⟩ := and2 h9
      obtain ⟨h13, h14⟩ := and2 h11
      obtain ⟨h15, h16⟩ := and2 h13
      have hh := (Bool.not_eq_true' _).mp h15
      subst hh
      have ec := (of_decide_eq_true h16).symm
      subst ec
      obtain ⟨Ch, m1, hx⟩ := K.ea.hdl _ (of_decide_eq_true h10)
      have e1 : (fun e => evS (callN T n) T.sub e (.tryAs b c i hd)) = fun e => match evS (callN T n) T.sub e b with
        | .exc c' e' => if T.sub c' c' = true then (if T.sub c' c = true then (evSs (callN T n) T.sub (e'.set i (.err c')) hd).un i else .exc c' e') else .stuck
        | o => o := by
        funext e
        conv => lhs; unfold evS
        unfold Out.un
        first | done | rfl
      rw [e1]
      exact c_tryAs (T := T) (Er := Er) (fb := fun e => evS (callN T n) T.sub e b) (fs := fun e => evSs (callN T n) T.sub e hd) (K.stk rfl) (K.frm rfl) (by rw [K.K.eN]; exact K.K.nd) (by rw [K.K.eN]; exact of_decide_eq_true h8) (by rw [K.K.es]; exact of_decide_eq_true h6) K.K.tk (K.ner rfl)
        ⟨gl_of K.K h14, (dbg_of h12).1, .inl m1⟩ K.ea.kn K.ea.obj hx (fun W' pn xe tk uw po => s_ok b (K.tr tk uw po) h4)
        (fun a oe cls d pn hz hf => pss_case fun Z σ H ⟨q1, Cl, q2, ex, q3⟩ => by
          subst q1 q2
          exact ⟨_, ss_ok hd (K.suite ex hz hf) h2, q3⟩)
    · cases h
/-- the clauses of a try -/
theorem hs_ok : ∀ (hs : Hs) {Er : Addr → Str → Prop} {W : WX} {C : Cx} {sc : Scope} {N : List Str} {hds : List ExceptHandler}, Sok T cons cmp n false Er W C sc N → chkHs (nmsT T) cons N cmp T.cls T.hcl sc hs hds = true →
    ∃ l, HdsOk C hds l ∧ ∀ (Z : Ends) (O0 : Addr → Prop) (H0 : Hp) (c : Str) (cv : Value) (e : En) (σ : L2.St) (H : Hp), T.sub c c = true → C.mg c = some cv → NoErr e → Rel C.K Er O0 H0 e σ H → PostS C Er W O0 H0 e σ H Z (evHs (callN T n) T.sub e c hs) → wMany C.K W Z l cv none σ H
  | .nil, Er, W, C, sc, N, hds, K, h => by
    unfold chkHs at h
    split at h
    · refine ⟨[], .nil, fun Z O0 H0 c cv e σ H _ m ne R hp => ?_⟩
      unfold evHs at hp
      exact hp cv σ H m R .refl
    · cases h
  | .cons c1 b r, Er, W, C, sc, N, hds, K, h => by
    unfold chkHs at h
    split at h
    · obtain ⟨h1, h2⟩ := and2 h
      obtain ⟨h3, h4⟩ := and2 h1
      obtain ⟨h5, h6⟩ := and2 h3
      obtain ⟨h7, h8⟩ := and2 h5
      obtain ⟨h9, h10⟩ := and2 h7
      have ec := (of_decide_eq_true h9).symm
      subst ec
      obtain ⟨l, k1, k2⟩ := hs_ok r K h2
      obtain ⟨Ch, m1, hx⟩ := K.ea.hdl _ (of_decide_eq_true h6)
      refine ⟨(.ref Ch, tSu T C fun e => evSs (callN T n) T.sub e b) :: l, .cons ⟨gl_of K.K h10, (dbg_of h8).1, .inl m1⟩ (fun a oe cls d pn hz hf => pss_case fun Z σ H ⟨q1, Cl, q2, ex, q3⟩ => by
          subst q1 q2
          exact ⟨_, ss_ok b (K.suite ex hz hf) h4, q3⟩) k1, fun Z O0 H0 c cv e σ H q m ne R hp => ?_⟩
      obtain ⟨Cl, m2, ex⟩ := K.ea.obj c (K.ea.kn c q)
      rw [m2] at m
      cases m
      unfold evHs at hp
      refine ⟨T.sub c c1, hx c Cl (K.ea.kn c q) m2, fun z a _ => ?_, fun z => ?_⟩
      · rw [if_pos z] at hp
        refine ⟨rfl, Cl, rfl, ex, O0, H0, e, R.er ne, post_er (Er := Er) (W := W) ne (o := evSs (callN T n) T.sub e b) ?_⟩
        cases w : evSs (callN T n) T.sub e b with
        | nx e2 => rw [w] at hp; exact hp
        | ret r2 => rw [w] at hp; exact hp
        | exc c2 e2 => rw [w] at hp; exact hp
        | stuck => rw [w] at hp; exact hp
      · rw [if_neg (by rw [z]; decide)] at hp
        exact k2 Z O0 H0 c (.ref Cl) e σ H q m2 ne R hp
    · cases h
theorem ss_ok : ∀ (s : Ss) {Er : Addr → Str → Prop} {W : WX} {C : Cx} {sc : Scope} {N : List Str} {hot : Bool} {st : List Stmt}, Sok T cons cmp n hot Er W C sc N → chkSs (nmsT T) cons N cmp T.cls T.hcl sc hot s st = true → PSs C st (tS C Er W fun e => evSs (callN T n) T.sub e s)
  | .nil, Er, W, C, sc, N, hot, st, K, h => by
    unfold chkSs at h
    split at h
    · exact c_none_left
    · exact c_pass
    · cases h
  | .frz i r, Er, W, C, sc, N, hot, st, K, h => by
    unfold chkSs at h
    exact c_frz (ss_ok r K h)
  | .cons s r, Er, W, C, sc, N, hot, st, K, h => by
    unfold chkSs at h
    split at h
    · obtain ⟨h1, h2⟩ := and2 h
      exact c_seq (s_ok s K h1) (ss_ok r K h2)
    · cases h
end
end
end
end Ev
set_option Elab.async false
set_option linter.all false
set_option maxRecDepth 100000
set_option maxHeartbeats 4000000
set_option autoImplicit false
/-! Every def keeps its promise. -/
namespace Ev
open PySem PySem.Spec PyProof.Rows L2

/-! ### at a def's entry -/
theorem start_rel {K : PySem.W.Frag} {Er : Addr → Str → Prop} {O : Addr → Prop} {H : Hp} {N : List Str} {args : List RV} {vs : List V} (hO : ∀ b, O b → H b ≠ none) (ha : ArgsOk K O H args vs) (hl : args.length ≤ N.length) :
    Rel K Er O H (startE N.length args) (L2.start N vs) H := by
  have el := ha.length
  have get : ∀ (i : Nat) (c : Cel), (startE N.length args)[i]? = some c → c = .no ∨ ∃ r v, args[i]? = some r ∧ vs[i]? = some v ∧ (L2.start N vs)[i]? = some (some v) ∧ ArgOk K O H r v ∧ c = (match r with
      | .val d => Cel.val d
      | .own d => Cel.val d
      | .bor d => Cel.bor d) := by
    intro i c h
    by_cases hi : i < args.length
    · refine .inr ?_
      have one : ∀ (args : List RV) (vs : List V), ArgsOk K O H args vs → ∀ i, i < args.length → ∃ r v, args[i]? = some r ∧ vs[i]? = some v ∧ ArgOk K O H r v := by
        intro args
        induction args with
        | nil => intro vs _ i hi; cases hi
        | cons r rs ih =>
          intro vs ⟨v, t, e, a, l⟩ i hi
          cases i with
          | zero => exact ⟨r, v, rfl, by rw [e]; rfl, a⟩
          | succ i =>
            obtain ⟨r', v', h1, h2, h3⟩ := ih t l i (by simpa using hi)
            exact ⟨r', v', by simpa using h1, by rw [e]; simpa using h2, h3⟩
      obtain ⟨r, v, h1, h2, h3⟩ := one args vs ha i hi
      refine ⟨r, v, h1, h2, ?_, h3, ?_⟩
      · unfold L2.start
        rw [List.getElem?_append_left (by rw [List.length_map]; omega), List.getElem?_map, h2]
        rfl
      · unfold startE at h
        rw [List.getElem?_append_left (by rw [List.length_map]; exact hi), List.getElem?_map, h1] at h
        exact (Option.some.inj h).symm
    · refine .inl ?_
      unfold startE at h
      rw [List.getElem?_append_right (by rw [List.length_map]; omega), List.getElem?_replicate] at h
      split at h
      · exact (Option.some.inj h).symm
      · cases h
  have nm : ∀ (i : Nat) (c : Cel), (startE N.length args)[i]? = some c → c.mine = false := fun i c h => by
    rcases get i c h with e | ⟨r, v, _, _, _, _, e⟩
    · rw [e]; rfl
    · rw [e]; cases r <;> rfl
  have less : Tr O (Ow O (startE N.length args) (L2.start N vs)) H H := Tr.less fun b z => z.elim (fun z => z) fun ⟨i, c, h1, h2, _⟩ => by
    rw [nm i c h1] at h2
    cases h2
  refine ⟨.refl H, hO, ?_, fun i c h => ?_, fun i j c c' a h h' m => by rw [nm i c h] at m; cases m⟩
  · unfold startE L2.start
    simp only [List.length_append, List.length_map, List.length_replicate]
    omega
  · rcases get i c h with e | ⟨r, v, _, _, e1, a, e⟩
    · rw [e]; exact True.intro
    · rw [e1, e]
      cases r with
      | val d => exact ⟨v, rfl, At.tr less _ _ a⟩
      | own d => exact ⟨v, rfl, At.tr less _ _ a⟩
      | bor d =>
        obtain ⟨b, e2, bo⟩ := a
        exact ⟨b, by rw [e2]; rfl, bo.tr less fun _ _ r => r⟩

/-! ### the defs -/
/-- a def of the text as it stands behind the top -/
structure DefAt (T : Tab) (cons : List (Str × Int)) (cmp : List Str) (K : PySem.W.Frag) (mg : Str → Option Value) (st : Stmt) (fn : Fn) (fa : Addr) (fd : FuncData) : Prop where
  F : L2.Fun K fn.name fn.name st fa fd
  m : mg fn.name = some (.ref fa)
  b : Binds K fd fn.ps []
  c : chkFn (nmsT T) cons cmp T.cls T.hcl fn st = true
/-- what else the top gives -/
structure TopAt (T : Tab) (cons : List (Str × Int)) (cmp : List Str) (K : PySem.W.Frag) (mg : Str → Option Value) : Prop where
  no : ∀ n, n ∈ (["len", "abs", "max", "min", "sum", "all", "repr", "int", "list", "dict", "isinstance", "range", "enumerate", "zip", "reversed", "bool", "str", "tuple"] : List Str) → mg n = none
  consG : ∀ x i, (x, i) ∈ cons → ∃ t, mg x = some (.int i t)
  ea : ErrAt T cmp K mg
  exc : ∀ (c m : Str) (j : Nat) (p p2 pos : Pos), c ∈ T.cls → ∃ Cl, mg c = some (.ref Cl) ∧ ∀ C : Cx, C.K = K → C.mg = mg → Gl C c → PMk C (.Call (.Name c p) [.Constant (.str m) j p2] [] pos) (fun _ H Q => Q (.ref Cl) none H)
section
variable {T : Tab} {cons : List (Str × Int)} {cmp : List Str} {P : Program} {w : World} {K : PySem.W.Frag} {mg : Str → Option Value} {base : Heap}
theorem fn_all (tp : TopAt T cons cmp K mg) (sys : SysAt base) (defs : ∀ (f : Nat) (fn : Fn), T.fns[f]? = some fn → ∃ st fa fd, DefAt T cons cmp K mg st fn fa fd) :
    ∀ (n f : Nat) (fn : Fn), T.fns[f]? = some fn → ∀ (st : Stmt) (fa : Addr) (fd : FuncData), DefAt T cons cmp K mg st fn fa fd → FnG P w K mg base n fa fd fn.ps (spF T K mg cmp n f)
  | 0, f, fn, hf, st, fa, fd, d => ⟨fun vs H Q E h => spF_len hf vs H Q E h, fun A out s H args us vs Q E _ _ _ _ _ ⟨O, as, _, _, p⟩ => False.elim p⟩
  | n + 1, f, fn, hf, st, fa, fd, d => by
    have ih := fn_all tp sys defs n
    obtain ⟨oc, od, kV, doc, pm, an, cdv, ct, osl, rfl, lk, hcd⟩ := d.F.ex
    obtain ⟨c1, c2⟩ := and2 d.c
    have S := fnScB_ok c1
    refine fn_ofG lk hcd S (fun vs H Q E h => spF_len hf vs H Q E h) fun A out s H vs Q E rm gd ⟨O, args, hO, ha, p⟩ => ?_
    let C := cxOf (L2.CX P w) P w K mg base fn.N fn.name (defScope st) fa cdv A out s H E
    let W : WX := ulW C fun cls d _ H => E cls d H
    have tk0 : Takes C (fun cls d _ H => E cls d H) := takes_of rfl rfl rfl (E₁ := fun e' s'' => L2.CX P w out H s E e' s'') rfl
    have tk : Takes C W := takes_ul tk0
    have cok : Cok T cons cmp n false (fun _ _ => False) W C (defScope st) fn.N :=
      ⟨rfl, rfl, S.nd, by have := rm.un; show (A.deeper _).units + 190 < cLine; omega, fun _ => rfl, fun _ => gd, fun _ => rm, sys, ⟨tp.no⟩, tp.consG, fun g gn hg => by
        obtain ⟨st', fa', fd', d'⟩ := defs g gn hg
        exact ⟨fa', fd', ih g gn hg st' fa' fd' d', d'.m, d'.F.kp, d'.b⟩, tk, (fun z => by cases z), (fun z => by cases z)⟩
    have sok : Sok T cons cmp n false (fun _ _ => False) W C (defScope st) fn.N :=
      ⟨cok, fun _ => rfl, uw_ul, fun _ => passes_of (K := fun e s'' => L2.CX P w out H s E e s'') (E₁ := fun e' s'' => L2.CX P w out H s E e' s'') rfl, tp.exc, tp.ea, fun _ => rfl, fun _ => rfl, fun _ _ _ z => z⟩
    have ar : args.length = fn.ps.length := by
      by_cases q : args.length = fn.ps.length
      · exact q
      · unfold callN at p
        rw [hf] at p
        dsimp only at p
        rw [if_neg q] at p
        exact False.elim p
    have pl : fn.ps.length ≤ fn.N.length := by
      have q := congrArg List.length S.pre
      rw [List.length_take] at q
      omega
    refine ⟨_, ss_ok fn.body sok c2, O, H, startE fn.N.length args, start_rel hO ha (by omega), ?_⟩
    unfold callN at p
    rw [hf] at p
    dsimp only at p
    rw [if_pos ar] at p
    show PostS C (fun _ _ => False) W O H (startE fn.N.length args) (L2.start fn.N vs) H { nx := fun _ H' => Q .non H', rt := Q } (evSs (callN T n) T.sub (startE fn.N.length args) fn.body)
    cases q : evSs (callN T n) T.sub (startE fn.N.length args) fn.body with
    | nx e' =>
      rw [q] at p
      have p : PostF K mg cmp O H Q E (.ok (.val .non)) := p
      exact fun σ' H' R' _ => p .non H' R'.same res_non
    | ret r =>
      rw [q] at p
      have p : PostF K mg cmp O H Q E (.ok r) := p
      exact fun v H' sm a _ => p v H' sm a
    | exc c e' =>
      rw [q] at p
      have p : PostF K mg cmp O H Q E (.exc c) := p
      exact fun cv σ' H' m R' _ => ⟨H', .refl H', p cv H' R'.same m⟩
    | stuck =>
      rw [q] at p
      exact False.elim (show False from p)
end
end Ev
set_option Elab.async false
set_option linter.all false
set_option maxRecDepth 100000
set_option maxHeartbeats 4000000
set_option autoImplicit false
/-! The law's head. -/
namespace Ev
open PySem PySem.Spec PyProof.Rows L2

theorem sys_at {h : Heap} {m : Str → Option Value} (n : h.Ns sysModules m) : SysAt h := by
  obtain ⟨o, es, ep, g, d, _⟩ := n
  exact ⟨o, _, _, g, d⟩
section
variable {P : Program} {w : World} {K : PySem.W.Frag} {mg mb mm : Str → Option Value} {k : Nat} {fa a : Addr} {fd : FuncData} {x : Str} {sp : Sp} {s1 : Shared} {vs : List Value} {ns : List Int}
/-- the heap that is ours: the script alone, or nothing -/
theorem law_at (KX : K.In s1.heap) (n1 : s1.heap.Ns mainGlobals mg) (n2 : s1.heap.Ns builtinsNs mb) (bb : ∀ x : Str, x ≠ "__name__" → mb x = bootBuiltins x) (nl : s1.heap.NoLimit) (n3 : s1.heap.Ns sysModules mm) (hg : s1.gens = #[])
    (hob : s1.heap.get? a = some { cls := .type "list", data := .seq vs.toArray }) (rm : Room k callerA) (gd : callerA.guards = some [])
    (F : ∀ base : Heap, K.In base → base.Ns mainGlobals mg → SysAt base → FnG P w K mg base k fa fd [x] sp) (bind : ∀ (s : Shared) (u : Value), BindsTo s fd ⟨[u], []⟩ [(x, u)])
    (hsp : ∀ H : Hp, Only H → SqL K H a (ns.map V.int) → sp [.ref a] H (fun v _ => v = .bl true) fun _ _ _ => False)
    (H : Hp) (only : Only H) (hS : SqL K H a (ns.map V.int)) (ok : HOk P w H s1.heap) (just : ∀ b, H b ≠ none → b = a) (apart : H a ≠ none → K.lookup a = none) :
    codeAny (model P w) callerA (.call (.ref fa) ⟨[.ref a], []⟩) (fun r s' => r = .ok (.ret (.bool true)) ∧ OldK s1.heap s'.heap ∧ s'.os = s1.os ∧ AllBare s'.gens) s1 := by
  have out : ∀ b, b ≠ a → H b = none := fun b ne => by
    cases q : H b with
    | none => rfl
    | some u => exact absurd (just b (by rw [q]; intro z; cases z)) ne
  have dictB : ∀ {b : Addr} {o : Obj} {es : Array DictEntry} {ep : Nat}, s1.heap.get? b = some o → o.data = .dict es ep → H b = none := fun {b o es ep} g d => out b fun z => by
    rw [z, hob] at g
    cases g
    cases d
  have ns_ : ∀ {b : Addr} {m : Str → Option Value}, s1.heap.Ns b m → (hidT s1.heap H).Ns b m := fun {b m} z => by
    obtain ⟨o, es, ep, g, d, r⟩ := z
    exact ⟨o, es, ep, hidT_get g (dictB g d), d, r⟩
  have kin : K.In (hidT s1.heap H) := fun b o z => hidT_get (KX b o z) (by
    by_cases q : b = a
    · subst q
      cases q2 : H b with
      | none => rfl
      | some u => rw [apart (by rw [q2]; intro z; cases z)] at z; cases z
    · exact out b q)
  have nl2 : (hidT s1.heap H).NoLimit := by
    obtain ⟨mc, g1, g2⟩ := nl
    exact ⟨mc, ns_ g1, g2⟩
  have e0 : Env0 P w K mg (hidT s1.heap H) callerA [] s1 H := by
    refine ⟨rfl, ⟨kin, ns_ n1, ⟨mb, ns_ n2, bb⟩, nl2⟩, fun b o z => of_hidT z, Nat.le_of_eq (hidT_size _ _), True.intro, fun b hb => ?_, ok, .of_eq hg⟩
    have hb : b ∈ ([] : List Addr) := hb
    cases hb
  have run := (F _ kin (ns_ n1) (sys_at (ns_ n3))).run callerA [] s1 H ⟨[.ref a], []⟩ [.ref a] [.ref a] _ _ rm gd e0 (bind s1 (.ref a)) (.cons rfl .nil) (hsp H only hS)
  refine codeAny_mono run ?_
  intro r s' q
  match r, q with
  | .error e, ⟨_, _, _, _, _, _, _, _, _, _, _, _, z⟩ => exact z.elim
  | .ok .next, q => exact False.elim q
  | .ok .brk, q => exact False.elim q
  | .ok .cont, q => exact False.elim q
  | .ok (.ret u), ⟨v, H', os, bare, un, ok', rv, q⟩ =>
    have q : v = .bl true := q
    subst q
    cases (show u = Value.bool true from rv)
    refine ⟨rfl, OldK.of_keep fun b o g => ?_, os, bare⟩
    rcases only b with z | ⟨ob, xs, z⟩
    · exact un.keep b o g z (fun z => by have z : b ∈ ([] : List Addr) := z; cases z) (fun z => by cases z)
    · obtain ⟨g1, _⟩ := ok b _ z
      obtain ⟨g2, _⟩ := ok' b _ (un.frzs b ob _ z)
      rw [g] at g1
      cases g1
      exact g2
theorem law_callG (KX : K.In s1.heap) (n1 : s1.heap.Ns mainGlobals mg) (n2 : s1.heap.Ns builtinsNs mb) (bb : ∀ x : Str, x ≠ "__name__" → mb x = bootBuiltins x) (nl : s1.heap.NoLimit) (n3 : s1.heap.Ns sysModules mm) (hg : s1.gens = #[])
    (hob : s1.heap.get? a = some { cls := .type "list", data := .seq vs.toArray }) (hi : IntsAre vs ns) (hl : ns.length ≤ sizeLine) (rm : Room k callerA) (gd : callerA.guards = some [])
    (F : ∀ base : Heap, K.In base → base.Ns mainGlobals mg → SysAt base → FnG P w K mg base k fa fd [x] sp) (bind : ∀ (s : Shared) (u : Value), BindsTo s fd ⟨[u], []⟩ [(x, u)])
    (hsp : ∀ H : Hp, Only H → SqL K H a (ns.map V.int) → sp [.ref a] H (fun v _ => v = .bl true) fun _ _ _ => False) :
    codeAny (model P w) callerA (.call (.ref fa) ⟨[.ref a], []⟩) (fun r s' => r = .ok (.ret (.bool true)) ∧ OldK s1.heap s'.heap ∧ s'.os = s1.os ∧ AllBare s'.gens) s1 := by
  have core := law_at (ns := ns) KX n1 n2 bb nl n3 hg hob rm gd F bind hsp
  have rv : Vals (ns.map V.int) vs := vals_ints hi
  have n := hi.length
  cases q : K.lookup a with
  | some o =>
    have g := KX a o q
    rw [hob] at g
    cases g
    refine core (fun _ => none) (fun _ => .inl rfl) (.inr ⟨_, vs.toArray, _, q, rfl, rfl, rfl, ?_, ?_⟩) (fun b u z => ?_) (fun b z => absurd rfl z) (fun z => absurd rfl z)
    · rw [List.size_toArray, n]; exact hl
    · simpa using rv
    · have z : (none : Option HO) = some u := z
      cases z
  | none =>
    let ob : HO := .frz { cls := .type "list", data := .seq vs.toArray } (.lst (ns.map V.int))
    have at_ : ∀ b, (fun b => if b = a then some ob else none : Hp) b = if b = a then some ob else none := fun _ => rfl
    refine core (fun b => if b = a then some ob else none) (fun b => ?_) (.inl (.inr ⟨{ cls := .type "list", data := .seq vs.toArray }, if_pos rfl⟩)) (fun b u z => ?_) (fun b z => ?_) (fun _ => q)
    · by_cases hb : b = a
      · exact .inr ⟨_, _, (at_ b).trans (if_pos hb)⟩
      · exact .inl ((at_ b).trans (if_neg hb))
    · have z := (at_ b).symm.trans z
      by_cases hb : b = a
      · rw [if_pos hb] at z
        cases z
        subst hb
        exact ⟨hob, by rw [List.length_map]; exact hl, vs, _, rv, hob⟩
      · rw [if_neg hb] at z
        cases z
    · by_cases hb : b = a
      · exact hb
      · exact absurd ((at_ b).trans (if_neg hb)) z
end
/-- from the law's promise to the claim's walk -/
theorem walk_ofG {l : PySem.W.OpenLaw} {n k : Nat} {q : Program} {loose : List Str} {XP : (Str → Option Value) → Heap → Prop} {YP : World → Heap → Prop} {d : DefRec} {K : Params → PySem.W.Frag} {sp : World → (Str → Option Value) → Sp} {x : Str}
    (hn : l.most = some n) (hn2 : n ≤ sizeLine) (hdf : d.params.defaults = []) (himp : importsNone q = true) (rm : Room k callerA) (gd : callerA.guards = some [])
    (hY : ∀ (w : World) (h : Heap), YP w h → (K w.params).In h)
    (F : ∀ (w : World) (mg : Str → Option Value) (fa : Addr) (h : Heap), (K w.params).In h → h.Ns mainGlobals mg → mg d.name = some (.ref fa) →
      ∃ fd : FuncData, (∀ (s : Shared) (u : Value), BindsTo s fd ⟨[u], []⟩ [(x, u)]) ∧
        ∀ base : Heap, (K w.params).In base → base.Ns mainGlobals mg → SysAt base → FnG l.prog w (K w.params) mg base k fa fd [x] (sp w mg))
    (hsp : ∀ (w : World) (mg : Str → Option Value) (H : Hp) (a : Addr) (ns : List Int), ns.length ≤ n → Only H → SqL (K w.params) H a (ns.map V.int) → sp w mg [.ref a] H (fun v _ => v = .bl true) fun _ _ _ => False) :
    PySem.W.WalkO q loose XP YP l.row.toRowW d [] (fun f vs => PySem.call f vs) := by
  refine Att.attach_call hn hdf ?_
  intro w s0 s1 mg mb fa o pm cd doc a vs ns G Y ho hd hcd hmg hobj hints hlen hg
  have KX := hY w _ Y
  obtain ⟨fd, hb, hF⟩ := F w mg fa _ KX G.T.g hmg
  have z := G.T.seer himp
  obtain ⟨_, ⟨mm, n3, _⟩⟩ := z
  exact law_callG KX G.T.g G.T.b G.T.builtins G.T.nolimit n3 hg hobj hints (Nat.le_trans hlen hn2) rm gd hF hb fun H hO hS => hsp w mg H a ns hlen hO hS
end Ev
set_option Elab.async false
set_option linter.all false
set_option maxRecDepth 100000
set_option maxHeartbeats 4000000
set_option autoImplicit false
/-! What the top must say of a class of errors. -/
namespace Ev
open PySem PySem.Spec PyProof.Rows L2
/-- an own class of errors that is named somewhere -/
structure ClsK (K : PySem.W.Frag) (mg : Str → Option Value) (c : Str) (C : Addr) : Prop where
  m : mg c = some (.ref C)
  b : PySem.W.subIn K (.ref C) (.type "BaseException") = some true
  d : PySem.W.hasDictIn K C = true
  t : PySem.W.typeIn K (.ref C) = some (.type "type")
/-- .. that is raised -/
structure RsK (K : PySem.W.Frag) (mg : Str → Option Value) (c : Str) (C : Addr) : Prop where
  o : ClsK K mg c C
  x : PySem.W.excIn K C [.type "ValueError", .type "Exception", .type "BaseException", .type "object"] "ValueError.__new__" = true
  k : PySem.W.keepIn K (.ref C) = true
  pp : PySem.W.subIn K (.ref C) (.ref C) = some true
  vv : PySem.W.subIn K (.ref C) (.type "ValueError") = some true
  e : ExcC K C
section
variable {K : PySem.W.Frag} {mg : Str → Option Value} {c c2 : Str} {P Q : Addr} {b : Bool}
theorem RsK.mk_ (R : RsK K mg c P) {m : Str} {j : Nat} {p p2 pos : Pos} (hd : (c == ("__debug__" : Str)) = false) : ∃ Cl, mg c = some (.ref Cl) ∧ ∀ C : Cx, C.K = K → C.mg = mg → Gl C c → PMk C (.Call (.Name c p) [.Constant (.str m) j p2] [] pos) (fun _ H Q => Q (.ref Cl) none H) := by
  refine ⟨P, R.o.m, fun C e1 e2 gl => ?_⟩
  subst e1 e2
  exact pmk_own PySem.F.excBase_ValueError R.x R.o.m R.k (raises_own R.o.b R.o.t) gl hd
theorem ClsK.exm (R : ClsK K mg c2 Q) (s : PySem.W.subIn K (.ref P) (.ref Q) = some b) : PySem.W.exmOne K (.ref P) (.ref Q) = some b := PySem.W.exm_ref R.b R.d R.t s
theorem ClsK.kit (R : ClsK K mg c2 Q) (pp : PySem.W.subIn K (.ref P) (.ref P) = some true) (s : PySem.W.subIn K (.ref P) (.ref Q) = some b) : PySem.W.kitOne K (.ref P) (.ref Q) = some b := by
  unfold PySem.W.kitOne
  by_cases h : (Value.ref P == Value.ref Q) = true
  · rw [if_pos h]
    have e : P = Q := Value.ref.inj (beq_iff_eq.mp h)
    subst e
    exact pp.symm.trans s
  · rw [if_neg h]
    have hc : (PySem.W.clsIn K Q).isSome = true := by
      have z := R.d
      unfold PySem.W.hasDictIn at z
      cases q : PySem.W.clsIn K Q with
      | none => rw [q] at z; cases z
      | some y => rfl
    show (if ((PySem.W.clsIn K Q).isSome && PySem.W.typeIn K (.ref Q) == some (.type "type")) = true then PySem.W.subIn K (.ref P) (.ref Q) else none) = _
    rw [hc, R.t]
    exact s
theorem RsK.kitV (R : RsK K mg c P) : PySem.W.kitOne K (.ref P) (.type "ValueError") = some true := by
  unfold PySem.W.kitOne
  rw [if_neg (by intro z; cases (beq_iff_eq.mp z))]
  show (if PySem.W.kitMeta "ValueError" = true then PySem.W.subIn K (.ref P) (.type "ValueError") else none) = _
  rw [if_pos (by decide +kernel)]
  exact R.vv
theorem kn_of {subs : List (Str × Str)} {cls : List Str} (h : (subs.all fun p => decide (p.1 ∈ cls)) = true) (c : Str) (hc : subs.contains (c, c) = true) : c ∈ cls := by
  have z := List.all_eq_true.mp h (c, c) (List.contains_iff_mem.mp hc)
  exact of_decide_eq_true z
end
end Ev
set_option Elab.async false
set_option linter.all false
set_option maxRecDepth 100000
set_option maxHeartbeats 4000000
set_option autoImplicit false
/-! Reckoning with the reckoner: loops, comprehensions, sizes. -/
namespace Ev
open PySem L2

theorem call_run (T : Tab) (n f : Nat) (fn : Fn) (args : List RV) (h : T.fns[f]? = some fn) (ha : args.length = fn.ps.length) : callN T (n + 1) f args = match evSs (callN T n) T.sub (startE fn.N.length args) fn.body with
        | .nx _ => .ok (.val .non)
        | .ret r => .ok r
        | .exc c _ => .exc c
        | .stuck => .stuck := by
  unfold callN
  rw [h]
  dsimp only
  rw [if_pos ha]
  first | done | rfl
/-- what an end gives the caller -/
def Out.fin : Out → Rs RV
  | .nx _ => .ok (.val .non)
  | .ret r => .ok r
  | .exc c _ => .exc c
  | .stuck => .stuck
theorem call_fin (T : Tab) (n f : Nat) (fn : Fn) (args : List RV) (h : T.fns[f]? = some fn) (ha : args.length = fn.ps.length) : callN T (n + 1) f args = (evSs (callN T n) T.sub (startE fn.N.length args) fn.body).fin := by
  rw [call_run T n f fn args h ha]
  unfold Out.fin
  rfl
/-- then the rest -/
def Out.thn (o : Out) (g : En → Out) : Out :=
  match o with
  | .nx e => g e
  | o => o
section
variable {call : Nat → List RV → Rs RV} {sub : Sub} {e : En}
theorem ss_nil : evSs call sub e .nil = .nx e := by unfold evSs; rfl
theorem ss_cons {s : S} {r : Ss} : evSs call sub e (.cons s r) = (evS call sub e s).thn fun e' => evSs call sub e' r := by
  conv => lhs; unfold evSs
  unfold Out.thn
  rfl
theorem ss_frz {i : Nat} {r : Ss} : evSs call sub e (.frz i r) = evSs call sub (e.set i (frzS (e.getD i .no))) r := by
  conv => lhs; unfold evSs
theorem s_for {tg : List Nat} {it : It} {b : Ss} : evS call sub e (.forr tg it b) = (evIt call sub e it).out e fun its => (loopF (fun d e' => (setT tg d e').out e' fun e2 => evSs call sub e2 b) its (lendE it e)).back e := by
  conv => lhs; unfold evS
theorem s_if {t : X} {a b : Ss} : evS call sub e (.ifs t a b) = ((evX call sub e t).bind asBl).out e fun c => if c = true then evSs call sub e a else evSs call sub e b := by
  conv => lhs; unfold evS
end
theorem thn_nx (e : En) (g : En → Out) : (Out.nx e).thn g = g e := rfl
theorem thn_ret (r : RV) (g : En → Out) : (Out.ret r).thn g = .ret r := rfl
/-- a loop by what stays true -/
theorem loop_inv {step : D → En → Out} (I : Nat → En → Prop) : ∀ (its : List D) (k : Nat) (e : En), I k e → (∀ (i : Nat) (d : D) (e : En), its[i]? = some d → I (k + i) e → ∃ e', step d e = .nx e' ∧ I (k + i + 1) e') → ∃ e', loopF step its e = .nx e' ∧ I (k + its.length) e'
  | [], k, e, h, _ => ⟨e, rfl, h⟩
  | d :: r, k, e, h, hs => by
    obtain ⟨e1, h1, h2⟩ := hs 0 d e rfl h
    obtain ⟨e2, h3, h4⟩ := loop_inv I r (k + 1) e1 h2 fun i x e' hx hi => by
      have q := hs (i + 1) x e' (by simpa using hx) (by rw [show k + (i + 1) = k + 1 + i by omega]; exact hi)
      rw [show k + (i + 1) + 1 = k + 1 + i + 1 by omega] at q
      exact q
    refine ⟨e2, ?_, by rw [show k + (d :: r).length = k + 1 + r.length by rw [List.length_cons]; omega]; exact h4⟩
    show (match step d e with | .nx e' => loopF step r e' | o => o) = _
    rw [h1]
    exact h3
/-- .. that may hand back on its way -/
theorem loop_ret {step : D → En → Out} (I : Nat → En → Prop) (P : Out → Prop) : ∀ (its : List D) (k : Nat) (e : En), I k e → (∀ (i : Nat) (d : D) (e : En), its[i]? = some d → I (k + i) e → (∃ e', step d e = .nx e' ∧ I (k + i + 1) e') ∨ (∃ r, step d e = .ret r ∧ P (.ret r))) →
    (∃ e', loopF step its e = .nx e' ∧ I (k + its.length) e') ∨ ∃ r, loopF step its e = .ret r ∧ P (.ret r)
  | [], k, e, h, _ => .inl ⟨e, rfl, h⟩
  | d :: r, k, e, h, hs => by
    rcases hs 0 d e rfl h with ⟨e1, h1, h2⟩ | ⟨r1, h1, h2⟩
    · have ih := loop_ret I P r (k + 1) e1 h2 fun i x e' hx hi => by
        have q := hs (i + 1) x e' (by simpa using hx) (by rw [show k + (i + 1) = k + 1 + i by omega]; exact hi)
        rw [show k + (i + 1) + 1 = k + 1 + i + 1 by omega] at q
        exact q
      have el : loopF step (d :: r) e = loopF step r e1 := by
        show (match step d e with | .nx e' => loopF step r e' | o => o) = _
        rw [h1]
      rcases ih with ⟨e2, h3, h4⟩ | ⟨r1, h3, h4⟩
      · exact .inl ⟨e2, el.trans h3, by rw [show k + (d :: r).length = k + 1 + r.length by rw [List.length_cons]; omega]; exact h4⟩
      · exact .inr ⟨r1, el.trans h3, h4⟩
    · refine .inr ⟨r1, ?_, h2⟩
      show (match step d e with | .nx e' => loopF step r e' | o => o) = _
      rw [h1]
theorem comp_map {one : D → Rs (Option D)} {g : D → D} : ∀ {its : List D}, (∀ d, d ∈ its → one d = .ok (some (g d))) → compL one its = .ok (its.map g)
  | [], _ => rfl
  | d :: r, h => by
    unfold compL
    rw [h d List.mem_cons_self]
    show (compL one r).bind _ = _
    rw [comp_map fun x hx => h x (List.mem_cons_of_mem _ hx)]
    rfl
theorem comp_fil {one : D → Rs (Option D)} {p : D → Bool} {g : D → D} : ∀ {its : List D}, (∀ d, d ∈ its → one d = .ok (if p d = true then some (g d) else none)) → compL one its = .ok ((its.filter p).map g)
  | [], _ => rfl
  | d :: r, h => by
    unfold compL
    rw [h d List.mem_cons_self]
    show (compL one r).bind _ = _
    rw [comp_fil fun x hx => h x (List.mem_cons_of_mem _ hx)]
    by_cases q : p d = true
    · rw [if_pos q, List.filter_cons_of_pos q]; rfl
    · rw [if_neg q, List.filter_cons_of_neg q]; rfl

/-! ### sizes -/
theorem cutS_le (x : Str) (lo hi : Option Int) : (L2.cutS x lo hi).length ≤ x.length := by
  show (((x.cps.toList.drop (HT.sIx x.length 0 lo)).take (HT.sIx x.length x.length hi - HT.sIx x.length 0 lo)).toArray).size ≤ x.cps.size
  rw [List.size_toArray, List.length_take, List.length_drop, Array.length_toList]
  omega
theorem app_len (a b : Str) : (a ++ b).length = a.length + b.length := Str.length_append a b
theorem fmod_range {a m : Int} (h : 0 < m) : 0 ≤ a.fmod m ∧ a.fmod m < m := ⟨Int.fmod_nonneg_of_pos a h, Int.fmod_lt_of_pos a h⟩
theorem atI_some {A : Type} {l : List A} {i : Int} (h0 : 0 ≤ i) (h : i < l.length) : ∃ x, L2.atI l i = some x ∧ x ∈ l ∧ l[i.toNat]? = some x := by
  have hi : i.toNat < l.length := by omega
  refine ⟨l[i.toNat], ?_, List.getElem_mem hi, List.getElem?_eq_getElem hi⟩
  unfold L2.atI L2.ixN
  rw [if_pos h0, if_pos (by omega)]
  show l[i.toNat]? = _
  exact List.getElem?_eq_getElem hi
/-- all keys apart -/
def Keys (ks : List (Str × D)) : Prop := (ks.map (·.1)).Nodup
theorem has_iff {ks : List (Str × D)} {k : Str} : has ks k = true ↔ k ∈ ks.map (·.1) := by
  unfold has
  rw [List.any_eq_true]
  constructor
  · rintro ⟨p, hp, h⟩
    exact List.mem_map.mpr ⟨p, hp, of_decide_eq_true h⟩
  · intro h
    obtain ⟨p, hp, e⟩ := List.mem_map.mp h
    exact ⟨p, hp, decide_eq_true e⟩
theorem lookQ_mem {ks : List (Str × D)} {k : Str} {d : D} (h : look ks k = some d) : (k, d) ∈ ks := by
  unfold look at h
  cases q : ks.find? fun kv => decide (kv.1 = k) with
  | none => rw [q] at h; cases h
  | some p =>
    rw [q] at h
    have h : some p.2 = some d := h
    cases h
    have e1 := List.find?_some q
    have e2 : p.1 = k := of_decide_eq_true e1
    rw [← e2]
    exact List.mem_of_find?_eq_some q
theorem look_has {ks : List (Str × D)} {k : Str} (h : has ks k = true) : ∃ d, look ks k = some d := by
  unfold has at h
  rw [List.any_eq_true] at h
  obtain ⟨p, hp, e⟩ := h
  cases q : ks.find? fun kv => decide (kv.1 = k) with
  | none => exact absurd e (by have z := List.find?_eq_none.mp q p hp; simpa using z)
  | some p2 =>
    unfold look
    rw [q]
    exact ⟨p2.2, rfl⟩
theorem mem_put {ks : List (Str × D)} {k : Str} {v : D} {p : Str × D} (h : p ∈ put ks k v) : p = (k, v) ∨ p ∈ ks := by
  unfold put at h
  split at h
  · obtain ⟨q, hq, e⟩ := List.mem_map.mp h
    by_cases z : q.1 = k
    · rw [if_pos z] at e
      exact .inl (by rw [← e, z])
    · rw [if_neg z] at e
      exact .inr (by rw [← e]; exact hq)
  · rcases List.mem_append.mp h with h | h
    · exact .inr h
    · exact .inl (by simpa using h)
theorem put_len {ks : List (Str × D)} {k : Str} {v : D} : (put ks k v).length ≤ ks.length + 1 ∧ ks.length ≤ (put ks k v).length ∧ 0 < (put ks k v).length := by
  unfold put
  split
  · rename_i h
    rw [List.length_map]
    refine ⟨by omega, Nat.le_refl _, ?_⟩
    cases ks with
    | nil => cases h
    | cons => exact Nat.succ_pos _
  · rw [List.length_append, List.length_singleton]
    omega
theorem put_keys {ks : List (Str × D)} {k : Str} {v : D} (h : Keys ks) : Keys (put ks k v) := by
  unfold put Keys at *
  split
  · rw [List.map_map]
    have e : ((fun x : Str × D => x.1) ∘ fun kv : Str × D => if kv.1 = k then (kv.1, v) else kv) = fun x => x.1 := by
      funext p
      show (if p.1 = k then (p.1, v) else p).1 = p.1
      split <;> rfl
    rw [e]
    exact h
  · rename_i hn
    rw [List.map_append, List.map_cons, List.map_nil, List.nodup_append]
    refine ⟨h, by simp, fun a ha b hb => ?_⟩
    have e : b = k := by simpa using hb
    intro z
    rw [e] at z
    rw [z] at ha
    exact hn (has_iff.mpr ha)
end Ev
set_option Elab.async false
set_option linter.all false
set_option maxRecDepth 100000
set_option maxHeartbeats 4000000
set_option autoImplicit false
/-! Data whose repr fits; data that is not nested too deep. -/
namespace Ev
open PySem L2

mutual
theorem py_depth : ∀ d : D, d.py.depth = d.dep
  | .non => rfl
  | .bl _ => rfl
  | .int _ => rfl
  | .str _ => rfl
  | .tup xs => by unfold D.py D.dep PyData.depth; rw [py_depthL xs]
  | .lst xs => by unfold D.py D.dep PyData.depth; rw [py_depthL xs]
  | .dct kvs => by unfold D.py D.dep PyData.depth; rw [py_depthD kvs]
theorem py_depthL : ∀ xs : List D, PyData.depthAll (D.pyL xs) = D.depL xs
  | [] => rfl
  | x :: xs => by unfold D.pyL D.depL PyData.depthAll; rw [py_depth x, py_depthL xs]
theorem py_depthD : ∀ xs : List (Str × D), PyData.depthKv (D.pyD xs) = D.depD xs
  | [] => rfl
  | (k, v) :: xs => by
    unfold D.pyD D.depD PyData.depthKv
    rw [py_depth v, py_depthD xs]
    show max (max 0 _) _ = _
    rw [Nat.zero_max]
end
/-- a text of small signs, not too long -/
def StrIn (S : Nat) (x : Str) : Prop := x.length ≤ S ∧ ∀ c, c ∈ x.cps.toList → c < 16 ^ 8
/-- data that can be shown: its signs, its depth -/
structure Nice (B m : Nat) (d : D) : Prop where
  sh : d.py.showable = true
  lv : d.py.leavesShort 30 = true
  bk : d.py.bulk ≤ B
  dp : d.dep ≤ m
theorem Nice.mono {B B' m m' : Nat} {d : D} (h : Nice B m d) (b : B ≤ B') (c : m ≤ m') : Nice B' m' d := ⟨h.sh, h.lv, Nat.le_trans h.bk b, Nat.le_trans h.dp c⟩
theorem Nice.show {B m : Nat} {d : D} (h : Nice B m d) (hb : 32 * B + 30 ≤ lim) (hm : m ≤ 150) : d.showOk = true := by
  unfold D.showOk
  have k := PyData.shown_le_bulk 30 (by decide) d.py h.lv
  have k2 : (30 + 2) * d.py.bulk ≤ 32 * B := Nat.mul_le_mul (Nat.le_refl _) h.bk
  rw [h.sh, py_depth]
  have h3 : d.py.shown.length ≤ lim := by omega
  have h4 := h.dp
  simp [h3]
  omega
theorem Nice.non : Nice 0 0 .non := ⟨rfl, rfl, Nat.le_refl _, Nat.le_refl _⟩
theorem Nice.bl {b : Bool} : Nice 0 0 (.bl b) := ⟨rfl, rfl, Nat.le_refl _, Nat.le_refl _⟩
theorem Nice.int {i : Int} (h : i.natAbs < 10 ^ 29) : Nice 0 0 (.int i) := by
  refine ⟨?_, ?_, Nat.le_refl _, Nat.le_refl _⟩
  · show decide (i.natAbs.log2 < 1920) = true
    refine decide_eq_true ?_
    by_cases z : i.natAbs = 0
    · rw [z]; decide
    · refine (Nat.log2_lt z).mpr (Nat.lt_trans h (by decide +kernel))
  · show decide ((toString i : Str).length ≤ 30) = true
    have e := int_text_length_le10 (k := 29) (by decide) h
    refine decide_eq_true ?_
    show (Str.ofString (toString i)).length ≤ 30
    rw [ofString_length]
    exact e
theorem Nice.str {S : Nat} {x : Str} (h : StrIn S x) : Nice S 0 (.str x) := by
  refine ⟨rfl, ?_, h.1, Nat.le_refl _⟩
  show (x.cps.toList.all fun c => decide (c < 16 ^ 8)) = true
  rw [List.all_eq_true]
  exact fun c hc => decide_eq_true (h.2 c hc)
theorem Nice.tup2 {B B' m : Nat} {d e : D} (h : Nice B m d) (k : Nice B' m e) : Nice (B + B' + 2) (m + 1) (.tup [d, e]) := by
  refine ⟨?_, ?_, ?_, ?_⟩
  · show (d.py.showable && (e.py.showable && true)) = true
    rw [h.sh, k.sh]; rfl
  · show (d.py.leavesShort 30 && (e.py.leavesShort 30 && true)) = true
    rw [h.lv, k.lv]; rfl
  · show d.py.bulk + 1 + (e.py.bulk + 1 + 0) ≤ _
    have := h.bk
    have := k.bk
    omega
  · show max d.dep (max e.dep 0) + 1 ≤ _
    have := h.dp
    have := k.dp
    omega
theorem Nice.dct {S B m : Nat} : ∀ {ks : List (Str × D)}, (∀ p, p ∈ ks → StrIn S p.1 ∧ Nice B m p.2) → Nice (ks.length * (S + B + 2)) (m + 1) (.dct ks) := by
  intro ks h
  have z : ∀ ks : List (Str × D), (∀ p, p ∈ ks → StrIn S p.1 ∧ Nice B m p.2) → PyData.showableKv (D.pyD ks) = true ∧ PyData.leavesShortKv 30 (D.pyD ks) = true ∧ PyData.bulkKv (D.pyD ks) ≤ ks.length * (S + B + 2) ∧ D.depD ks ≤ m := by
    intro ks
    induction ks with
    | nil => intro _; exact ⟨rfl, rfl, Nat.zero_le _, Nat.zero_le _⟩
    | cons p r ih =>
      intro h
      obtain ⟨h1, h2⟩ := h p List.mem_cons_self
      obtain ⟨i1, i2, i3, i4⟩ := ih fun q hq => h q (List.mem_cons_of_mem _ hq)
      have h3 := Nice.str h1
      obtain ⟨k, v⟩ := p
      refine ⟨?_, ?_, ?_, ?_⟩
      · show (true && v.py.showable && PyData.showableKv (D.pyD r)) = true
        rw [h2.sh, i1]; rfl
      · show (PyData.leavesShort 30 (.str k) && v.py.leavesShort 30 && PyData.leavesShortKv 30 (D.pyD r)) = true
        rw [show PyData.leavesShort 30 (.str k) = true from h3.lv, h2.lv, i2]; rfl
      · show k.cps.size + v.py.bulk + 2 + PyData.bulkKv (D.pyD r) ≤ (r.length + 1) * (S + B + 2)
        have e1 : k.cps.size ≤ S := h1.1
        have e2 := h2.bk
        rw [Nat.succ_mul]
        have e3 : v.py.bulk ≤ B := e2
        omega
      · show max v.dep (D.depD r) ≤ m
        have e2 : v.dep ≤ m := h2.dp
        omega
  obtain ⟨h1, h2, h3, h4⟩ := z ks h
  exact ⟨h1, h2, h3, by show D.depD ks + 1 ≤ m + 1; omega⟩
theorem sub_lst {xs : List D} {i : Int} {d : D} (h : atI xs i = some d) : subop (.lst xs) (.int i) = .ok (.val d) := by
  show (match atI xs i with | some d => Rs.ok (RV.val d) | none => Rs.stuck) = _
  rw [h]
theorem sub_tup {xs : List D} {i : Int} {d : D} (h : atI xs i = some d) : subop (.tup xs) (.int i) = .ok (.val d) := by
  show (match atI xs i with | some d => Rs.ok (RV.val d) | none => Rs.stuck) = _
  rw [h]
theorem sub_dct {ks : List (Str × D)} {k : Str} {d : D} (h : look ks k = some d) : subop (.dct ks) (.str k) = .ok (.val d) := by
  show (match look ks k with | some d => Rs.ok (RV.val d) | none => Rs.stuck) = _
  rw [h]
theorem sub_str {x : Str} {i : Int} {c : Nat} (h : atI x.cps.toList i = some c) (hl : x.length ≤ lim) : subop (.str x) (.int i) = .ok (.val (.str ⟨#[c]⟩)) := by
  show (if x.length ≤ lim then (match atI x.cps.toList i with | some c => Rs.ok (RV.val (.str ⟨#[c]⟩)) | none => Rs.stuck) else Rs.stuck) = _
  rw [if_pos hl, h]
theorem sub_pair0 {a b : D} : subop (.tup [a, b]) (.int 0) = .ok (.val a) := rfl
theorem sub_pair1 {a b : D} : subop (.tup [a, b]) (.int 1) = .ok (.val b) := rfl
theorem eq_flat {a b : D} (h : b.dep = 0) : eqOk a b = true := by
  unfold eqOk
  rw [h, Nat.min_zero]
  rfl
theorem eq_deep {a b : D} {m : Nat} (h : a.dep ≤ m) (hm : m ≤ 150) : eqOk a b = true := by
  unfold eqOk
  exact decide_eq_true (Nat.le_trans (Nat.min_le_left _ _) (Nat.le_trans h hm))
end Ev
set_option Elab.async false
set_option linter.all false
set_option maxRecDepth 100000
set_option maxHeartbeats 4000000
set_option autoImplicit false
/-! The reckoner, step by step. -/
namespace Ev
open PySem L2
section
variable {call : Nat → List RV → Rs RV} {sub : Sub} {e : En}
theorem x_non : evX call sub e .cnon = .ok (.val .non) := by unfold evX; rfl
theorem x_bl {b : Bool} : evX call sub e (.cbl b) = .ok (.val (.bl b)) := by unfold evX; rfl
theorem x_int {i : Int} : evX call sub e (.cint i) = .ok (.val (.int i)) := by unfold evX; rfl
theorem x_str {x : Str} : evX call sub e (.cstr x) = .ok (.val (.str x)) := by unfold evX; rfl
/-- what a name's slot gives -/
def cellR : Option Cel → Rs RV
  | some (.val d) => .ok (.val d)
  | some (.own d) => .ok (.bor d)
  | some (.lent d) => .ok (.bor d)
  | some (.bor d) => .ok (.bor d)
  | _ => .stuck
theorem x_var {i : Nat} : evX call sub e (.var i) = cellR e[i]? := by
  unfold evX cellR
  rfl
theorem cell_val {d : D} : cellR (some (.val d)) = .ok (.val d) := rfl
theorem cell_own {d : D} : cellR (some (.own d)) = .ok (.bor d) := rfl
theorem cell_lent {d : D} : cellR (some (.lent d)) = .ok (.bor d) := rfl
theorem cell_bor {d : D} : cellR (some (.bor d)) = .ok (.bor d) := rfl
theorem x_tup {es : Xs} : evX call sub e (.tup es) = (evXs call sub e es).bind fun rs => (asVals rs).bind fun ds => .ok (.val (.tup ds)) := by conv => lhs; unfold evX
theorem x_lst {es : Xs} : evX call sub e (.lst es) = (evXs call sub e es).bind fun rs => (asVals rs).bind fun ds => .ok (.own (.lst ds)) := by conv => lhs; unfold evX
theorem x_dct {es : Xs} : evX call sub e (.dct es) = (evXs call sub e es).bind fun rs => (asVals rs).bind fun ds => (pairUp ds).bind fun l => .ok (.own (.dct (merge [] l))) := by conv => lhs; unfold evX
theorem x_bin {o : Bop} {a b : X} : evX call sub e (.bin o a b) = (evX call sub e a).bind fun x => (evX call sub e b).bind fun y => binop o x.d y.d := by conv => lhs; unfold evX
theorem x_cmp {o : Cop} {a b : X} : evX call sub e (.cmp o a b) = (evX call sub e a).bind fun x => (evX call sub e b).bind fun y => cmpop o x.d y.d := by conv => lhs; unfold evX
theorem x_and {es : Xs} : evX call sub e (.and es) = (evAnd call sub e es).bind fun b => .ok (.val (.bl b)) := by conv => lhs; unfold evX
theorem x_or {es : Xs} : evX call sub e (.or es) = (evOr call sub e es).bind fun b => .ok (.val (.bl b)) := by conv => lhs; unfold evX
theorem x_not {a : X} : evX call sub e (.not a) = (evX call sub e a).bind fun x => (asBl x).bind fun b => .ok (.val (.bl !b)) := by conv => lhs; unfold evX
theorem x_ife {t a b : X} : evX call sub e (.ife t a b) = (evX call sub e t).bind fun x => (asBl x).bind fun c => if c = true then evX call sub e a else evX call sub e b := by conv => lhs; unfold evX
theorem x_call {f : Nat} {es : Xs} : evX call sub e (.call f es) = (evXs call sub e es).bind fun rs => call f rs := by conv => lhs; unfold evX
theorem x_bfn {f : Bfn} {es : Xs} : evX call sub e (.bfn f es) = (evXs call sub e es).bind fun rs => bfnop f (rs.map RV.d) := by conv => lhs; unfold evX
theorem x_isi {a : X} {ts : List Ty} : evX call sub e (.isi a ts) = (evX call sub e a).bind fun x => .ok (.val (.bl (ts.any (x.d.isTy ·)))) := by conv => lhs; unfold evX
theorem x_sub {a i : X} : evX call sub e (.sub a i) = (evX call sub e a).bind fun x => (evX call sub e i).bind fun y => subop x.d y.d := by conv => lhs; unfold evX
theorem x_slc {a lo hi : X} : evX call sub e (.slc a lo hi) = (evX call sub e a).bind fun x => (if isNone lo = true then .ok none else (evX call sub e lo).bind bound).bind fun l => (if isNone hi = true then .ok none else (evX call sub e hi).bind bound).bind fun h => slcop x.d l h := by conv => lhs; unfold evX
theorem x_mth {m : Mth} {a : X} {es : Xs} : evX call sub e (.mth m a es) = (evX call sub e a).bind fun x => if mthOk m x.d = true then (evXs call sub e es).bind fun rs => (asVals (mthArg m rs)).bind fun _ => mthop m x.d (rs.map RV.d) else .stuck := by conv => lhs; unfold evX
theorem x_glob {x : Str} {i : Int} : evX call sub e (.glob x i) = .ok (.val (.int i)) := by unfold evX; rfl
theorem x_neg {a : X} : evX call sub e (.neg a) = (evX call sub e a).bind fun x => match x.d with | .int i => .ok (.val (.int (-i))) | _ => .stuck := by
  conv => lhs; unfold evX
  first | done | rfl
theorem x_comp {elt cond : X} {tg : List Nat} {it : It} : evX call sub e (.comp elt tg it cond) = (evIt call sub e it).bind fun its => if its.length ≤ lim then
      (compL (fun d => ((setT tg d (wipeS tg e)).bind fun e' =>
        ((evX call sub e' cond).bind asBl).bind fun b => if b = true then (evX call sub e' elt).bind fun y => (asVal y).bind fun d => .ok (some d) else .ok none).noX) its).bind fun l => .ok (.own (.lst l))
    else .stuck := by conv => lhs; unfold evX
theorem xs_nil : evXs call sub e .nil = .ok [] := by unfold evXs; rfl
theorem xs_cons {x : X} {r : Xs} : evXs call sub e (.cons x r) = (evX call sub e x).bind fun v => (evXs call sub e r).bind fun vs => .ok (v :: vs) := by conv => lhs; unfold evXs
theorem and_nil : evAnd call sub e .nil = .ok true := by unfold evAnd; rfl
theorem and_cons {x : X} {r : Xs} : evAnd call sub e (.cons x r) = (evX call sub e x).bind fun v => (asBl v).bind fun b => if b = true then evAnd call sub e r else .ok false := by conv => lhs; unfold evAnd
theorem or_nil : evOr call sub e .nil = .ok false := by unfold evOr; rfl
theorem or_cons {x : X} {r : Xs} : evOr call sub e (.cons x r) = (evX call sub e x).bind fun v => (asBl v).bind fun b => if b = true then .ok true else evOr call sub e r := by conv => lhs; unfold evOr
theorem i_ex {a : X} : evIt call sub e (.ex a) = ((evX call sub e a).bind (itR a)).bind itemsOf := by conv => lhs; unfold evIt
theorem i_range {a : X} : evIt call sub e (.range a) = (evX call sub e a).bind rangeOf := by conv => lhs; unfold evIt
theorem i_enum {a : X} : evIt call sub e (.enum a) = ((evX call sub e a).bind (itR a)).bind enumOf := by conv => lhs; unfold evIt
theorem i_zip {a b : X} : evIt call sub e (.zip a b) = ((evX call sub e a).bind (itR a)).bind fun x => ((evX call sub e b).bind (itR b)).bind fun y => zipOf x y := by conv => lhs; unfold evIt
theorem i_rev {a : X} : evIt call sub e (.rev a) = ((evX call sub e a).bind (itR a)).bind revOf := by conv => lhs; unfold evIt
theorem s_asg {i : Nat} {x : X} : evS call sub e (.asg i x) = ((evX call sub e x).bind giveS).out e fun s => .nx (e.set i s) := by conv => lhs; unfold evS
theorem s_setI {i : Nat} {k v : X} : evS call sub e (.setI i k v) = match e[i]? with
    | some (.own _) => ((evX call sub e v).bind fun y => (asVal y).bind fun d => (evX call sub e k).bind fun x => .ok (x.d, d)).out e fun p => setO e i p.1 p.2
    | _ => .stuck := by
  conv => lhs; unfold evS
  first | done | rfl
theorem s_app {i : Nat} {x : X} : evS call sub e (.app i x) = match e[i]? with
    | some (.own (.lst xs)) => ((evX call sub e x).bind asVal).out e fun d => if xs.length < lim then .nx (e.set i (.own (.lst (xs ++ [d])))) else .stuck
    | _ => .stuck := by
  conv => lhs; unfold evS
  first | done | rfl
theorem s_popk {i : Nat} {k : X} : evS call sub e (.popk i k) = match e[i]? with
    | some (.own (.dct kvs)) => ((evX call sub e k).bind asVal).out e fun d => match d with
      | .str s => if has kvs s = true then .nx (e.set i (.own (.dct (drop kvs s)))) else .stuck
      | _ => .stuck
    | _ => .stuck := by
  conv => lhs; unfold evS
  first | done | rfl
theorem s_setO {i : Nat} {k v : X} {d : D} (h : e[i]? = some (.own d)) : evS call sub e (.setI i k v) = ((evX call sub e v).bind fun y => (asVal y).bind fun d => (evX call sub e k).bind fun x => .ok (x.d, d)).out e fun p => setO e i p.1 p.2 := by
  rw [s_setI, h]
theorem s_appO {i : Nat} {x : X} {xs : List D} (h : e[i]? = some (.own (.lst xs))) : evS call sub e (.app i x) = ((evX call sub e x).bind asVal).out e fun d => if xs.length < lim then .nx (e.set i (.own (.lst (xs ++ [d])))) else .stuck := by
  rw [s_app, h]
theorem s_popO {i : Nat} {k : X} {ks : List (Str × D)} (h : e[i]? = some (.own (.dct ks))) : evS call sub e (.popk i k) = ((evX call sub e k).bind asVal).out e fun d => match d with
      | .str s => if has ks s = true then .nx (e.set i (.own (.dct (drop ks s)))) else .stuck
      | _ => .stuck := by
  rw [s_popk, h]
theorem setO_dct {i : Nat} {k : Str} {d : D} {ks : List (Str × D)} (h : e[i]? = some (.own (.dct ks))) (hl : ks.length < lim) : setO e i (.str k) d = .nx (e.set i (.own (.dct (put ks k d)))) := by
  unfold setO
  rw [h]
  show (if ks.length < lim then Out.nx _ else Out.stuck) = _
  rw [if_pos hl]
theorem s_expr {x : X} : evS call sub e (.expr x) = (evX call sub e x).out e fun _ => .nx e := by conv => lhs; unfold evS
theorem s_ret {x : X} : evS call sub e (.ret x) = ((evX call sub e x).bind (retR e x)).out e fun r => .ret r := by conv => lhs; unfold evS
theorem s_rais {c : Str} : evS call sub e (.rais c) = .exc c e := by unfold evS; rfl
end
/-! the rest of a suite, the arms of a test: looked at when they are come to -/
def runSs (call : Nat → List RV → Rs RV) (sub : Sub) (o : Out) (r : Ss) : Out :=
  match o with
  | .nx e => evSs call sub e r
  | o => o
def ifSs (call : Nat → List RV → Rs RV) (sub : Sub) (e : En) (c : Rs Bool) (a b : Ss) : Out := c.out e fun c => if c = true then evSs call sub e a else evSs call sub e b
def andR (call : Nat → List RV → Rs RV) (sub : Sub) (e : En) (v : Rs Bool) (r : Xs) : Rs Bool := v.bind fun b => if b = true then evAnd call sub e r else .ok false
def orR (call : Nat → List RV → Rs RV) (sub : Sub) (e : En) (v : Rs Bool) (r : Xs) : Rs Bool := v.bind fun b => if b = true then .ok true else evOr call sub e r
section
variable {call : Nat → List RV → Rs RV} {sub : Sub} {e e' : En}
theorem q_cons {s : S} {r : Ss} : evSs call sub e (.cons s r) = runSs call sub (evS call sub e s) r := by
  conv => lhs; unfold evSs
  unfold runSs
  rfl
theorem q_nx {r : Ss} : runSs call sub (.nx e) r = evSs call sub e r := rfl
theorem q_ret {v : RV} {r : Ss} : runSs call sub (.ret v) r = .ret v := rfl
theorem q_exc {c : Str} {r : Ss} : runSs call sub (.exc c e) r = .exc c e := rfl
theorem q_if {t : X} {a b : Ss} : evS call sub e (.ifs t a b) = ifSs call sub e ((evX call sub e t).bind asBl) a b := s_if
theorem q_tt {a b : Ss} : ifSs call sub e (.ok true) a b = evSs call sub e a := rfl
theorem q_ff {a b : Ss} : ifSs call sub e (.ok false) a b = evSs call sub e b := rfl
theorem q_and {x : X} {r : Xs} : evAnd call sub e (.cons x r) = andR call sub e ((evX call sub e x).bind asBl) r := by
  rw [and_cons]
  unfold andR
  cases evX call sub e x <;> rfl
theorem q_or {x : X} {r : Xs} : evOr call sub e (.cons x r) = orR call sub e ((evX call sub e x).bind asBl) r := by
  rw [or_cons]
  unfold orR
  cases evX call sub e x <;> rfl
theorem q_at {r : Xs} : andR call sub e (.ok true) r = evAnd call sub e r := rfl
theorem q_af {r : Xs} : andR call sub e (.ok false) r = .ok false := rfl
theorem q_ot {r : Xs} : orR call sub e (.ok true) r = .ok true := rfl
theorem q_of {r : Xs} : orR call sub e (.ok false) r = evOr call sub e r := rfl
end
section
variable {a : Type} {x : a} {e : En} {f : a → Out}
theorem out_ok : (Rs.ok x).out e f = f x := rfl
end
section
variable {call : Nat → List RV → Rs RV} {sub : Sub} {e : En} {tg : List Nat} {it : It} {b : Ss} {its : List D}
theorem for_inv (h : evIt call sub e it = .ok its) (I : Nat → En → Prop) (h0 : I 0 (lendE it e)) (hs : ∀ (i : Nat) (d : D) (e1 : En), its[i]? = some d → I i e1 → ∃ e2 e3, setT tg d e1 = .ok e2 ∧ evSs call sub e2 b = .nx e3 ∧ I (i + 1) e3) :
    ∃ e', evS call sub e (.forr tg it b) = .nx (backE e e') ∧ I its.length e' := by
  have k := loop_inv (step := fun d e' => (setT tg d e').out e' fun e2 => evSs call sub e2 b) I its 0 (lendE it e) h0 fun i d e1 hd hi => by
    rw [Nat.zero_add] at hi ⊢
    obtain ⟨e2, e3, q1, q2, q3⟩ := hs i d e1 hd hi
    exact ⟨e3, by rw [q1]; exact q2, q3⟩
  rw [Nat.zero_add] at k
  obtain ⟨e', k1, k2⟩ := k
  refine ⟨e', ?_, k2⟩
  rw [s_for, h]
  show (loopF _ its (lendE it e)).back e = _
  rw [k1]
  rfl
theorem for_ret (h : evIt call sub e it = .ok its) (I : Nat → En → Prop) (P : RV → Prop) (h0 : I 0 (lendE it e)) (hs : ∀ (i : Nat) (d : D) (e1 : En), its[i]? = some d → I i e1 → ∃ e2, setT tg d e1 = .ok e2 ∧ ((∃ e3, evSs call sub e2 b = .nx e3 ∧ I (i + 1) e3) ∨ ∃ r, evSs call sub e2 b = .ret r ∧ P r)) :
    (∃ e', evS call sub e (.forr tg it b) = .nx (backE e e') ∧ I its.length e') ∨ ∃ r, evS call sub e (.forr tg it b) = .ret r ∧ P r := by
  have k := loop_ret (step := fun d e' => (setT tg d e').out e' fun e2 => evSs call sub e2 b) I (fun o => ∃ r, o = .ret r ∧ P r) its 0 (lendE it e) h0 fun i d e1 hd hi => by
    rw [Nat.zero_add] at hi ⊢
    obtain ⟨e2, q1, q2⟩ := hs i d e1 hd hi
    rcases q2 with ⟨e3, q2, q3⟩ | ⟨r, q2, q3⟩
    · exact .inl ⟨e3, by rw [q1]; exact q2, q3⟩
    · exact .inr ⟨r, by rw [q1]; exact q2, r, rfl, q3⟩
  rw [Nat.zero_add] at k
  rcases k with ⟨e', k1, k2⟩ | ⟨r, k1, k2⟩
  · refine .inl ⟨e', ?_, k2⟩
    rw [s_for, h]
    show (loopF _ its (lendE it e)).back e = _
    rw [k1]
    rfl
  · obtain ⟨r', k3, k4⟩ := k2
    cases k3
    refine .inr ⟨r, ?_, k4⟩
    rw [s_for, h]
    show (loopF _ its (lendE it e)).back e = _
    rw [k1]
    rfl
end
theorem set_one {i : Nat} {d : D} {e : En} : setT [i] d e = .ok (e.set i (.val d)) := rfl
theorem get_range {n i : Nat} {d : D} (h : ((List.range n).map fun (i : Nat) => D.int i)[i]? = some d) : d = .int i ∧ i < n := by
  rw [List.getElem?_map] at h
  cases q : (List.range n)[i]? with
  | none => rw [q] at h; cases h
  | some j =>
    rw [q] at h
    have h : some (D.int j) = some d := h
    obtain ⟨h1, h2⟩ := List.getElem?_eq_some_iff.mp q
    rw [List.getElem_range] at h2
    rw [List.length_range] at h1
    subst h2
    cases h
    exact ⟨rfl, h1⟩
theorem pu_nil : pairUp [] = .ok [] := rfl
theorem mg_nil : merge [] [] = [] := rfl
theorem frz_own {d : D} : frzS (.own d) = .val d := rfl
theorem frz_val {d : D} : frzS (.val d) = .val d := rfl
theorem frz_bor {d : D} : frzS (.bor d) = .bor d := rfl
theorem len_dct {ks : List (Str × D)} (h : ks.length ≤ lim) : bfnop .len [.dct ks] = .ok (.val (.int ks.length)) := by
  show (if ks.length ≤ lim then Rs.ok (RV.val (.int ks.length)) else Rs.stuck) = _
  rw [if_pos h]
theorem len_lst {ks : List D} (h : ks.length ≤ lim) : bfnop .len [.lst ks] = .ok (.val (.int ks.length)) := by
  show (if ks.length ≤ lim then Rs.ok (RV.val (.int ks.length)) else Rs.stuck) = _
  rw [if_pos h]
theorem lstQ_dct {ks : List (Str × D)} : bfnop .list1 [.dct ks] = .ok (.own (.lst (ks.map fun kv => .str kv.1))) := rfl
theorem dct_dct {ks : List (Str × D)} : bfnop .dict1 [.dct ks] = .ok (.own (.dct ks)) := rfl
theorem items_dct {r : RV} {ks : List (Str × D)} (hr : r.d = .dct ks) (h : ks.length ≤ lim) : itemsOf r = .ok (ks.map fun kv => .str kv.1) := by
  unfold itemsOf
  rw [hr]
  show (if ks.length ≤ lim then Rs.ok _ else Rs.stuck) = _
  rw [if_pos h]
/-- a key by its place, round and round -/
theorem key_at {ks : List (Str × D)} (hne : ks ≠ []) (i : Int) : ∃ k d, subop (.lst (ks.map fun kv => .str kv.1)) (.int (i.fmod ks.length)) = .ok (.val (.str k)) ∧ look ks k = some d ∧ (k, d) ∈ ks := by
  have hp : (0 : Int) < ks.length := by
    cases ks with
    | nil => exact absurd rfl hne
    | cons p r => simp only [List.length_cons]; omega
  obtain ⟨h0, h1⟩ := fmod_range (a := i) hp
  obtain ⟨x, e1, e2, _⟩ := atI_some (l := ks.map fun kv => D.str kv.1) h0 (by rw [List.length_map]; exact h1)
  obtain ⟨p, hp, e3⟩ := List.mem_map.mp e2
  obtain ⟨d, e4⟩ := look_has (ks := ks) (k := p.1) (has_iff.mpr (List.mem_map.mpr ⟨p, hp, rfl⟩))
  exact ⟨p.1, d, by rw [sub_lst e1, e3], e4, lookQ_mem e4⟩
theorem fin_nx {e : En} : (Out.nx e).fin = .ok (.val .non) := rfl
theorem fin_ret {r : RV} : (Out.ret r).fin = .ok r := rfl
theorem give_val {d : D} : giveS (.val d) = .ok (.val d) := rfl
theorem give_own {d : D} : giveS (.own d) = .ok (.own d) := rfl
theorem bl_val {b : Bool} : asBl (.val (.bl b)) = .ok b := rfl
theorem va_val {d : D} : asVal (.val d) = .ok d := rfl
theorem va_own {d : D} : asVal (.own d) = .ok d := rfl
theorem vas_nil : asVals [] = .ok [] := rfl
theorem vas_cons {r : RV} {rs : List RV} : asVals (r :: rs) = (asVal r).bind fun d => (asVals rs).bind fun ds => .ok (d :: ds) := rfl
theorem d_val {d : D} : (RV.val d).d = d := rfl
theorem d_own {d : D} : (RV.own d).d = d := rfl
theorem d_bor {d : D} : (RV.bor d).d = d := rfl
theorem ret_val {e : En} {x : X} {d : D} : retR e x (.val d) = .ok (.val d) := rfl
theorem ret_own {e : En} {x : X} {d : D} : retR e x (.own d) = .ok (.own d) := rfl
theorem ret_var {e : En} {i : Nat} {d d' : D} (h : e[i]? = some (.own d')) : retR e (.var i) (.bor d) = .ok (.own d) := by
  unfold retR
  dsimp only
  rw [h]
theorem b_add {i j : Int} : binop .add (.int i) (.int j) = .ok (.val (.int (i + j))) := rfl
theorem b_sub {i j : Int} : binop .sub (.int i) (.int j) = .ok (.val (.int (i - j))) := rfl
theorem b_mul {i j : Int} (h : smallI j = true) : binop .mul (.int i) (.int j) = .ok (.val (.int (i * j))) := by
  show (if (smallI i || smallI j) = true then Rs.ok (RV.val (.int (i * j))) else Rs.stuck) = _
  rw [h, Bool.or_true, if_pos rfl]
theorem b_fdiv {i j : Int} (h : j ≠ 0 ∧ smallI j = true) : binop .fdiv (.int i) (.int j) = .ok (.val (.int (i.fdiv j))) := by
  show (if j ≠ 0 ∧ smallI j = true then Rs.ok (RV.val (.int (i.fdiv j))) else Rs.stuck) = _
  rw [if_pos h]
theorem b_mod {i j : Int} (h : j ≠ 0) : binop .mod (.int i) (.int j) = .ok (.val (.int (i.fmod j))) := by
  show (if j ≠ 0 then Rs.ok (RV.val (.int (i.fmod j))) else Rs.stuck) = _
  rw [if_pos h]
theorem b_str {x y : Str} (h : x.length + y.length ≤ lim) : binop .add (.str x) (.str y) = .ok (.val (.str (x ++ y))) := by
  show (if x.length + y.length ≤ lim then Rs.ok (RV.val (.str (x ++ y))) else Rs.stuck) = _
  rw [if_pos h]
theorem c_eqd {a b : D} (h : eqOk a b = true) : cmpop .eq a b = .ok (.val (.bl (D.eqv a b))) := by
  show (if eqOk a b = true then Rs.ok (RV.val (.bl (D.eqv a b))) else Rs.stuck) = _
  rw [if_pos h]
theorem c_eqi {i j : Int} : cmpop .eq (.int i) (.int j) = .ok (.val (.bl (i == j))) := rfl
theorem c_eqs {i j : Str} : cmpop .eq (.str i) (.str j) = .ok (.val (.bl (decide (i = j)))) := rfl
theorem c_lt {i j : Int} : cmpop .lt (.int i) (.int j) = .ok (.val (.bl (decide (i < j)))) := rfl
theorem c_le {i j : Int} : cmpop .le (.int i) (.int j) = .ok (.val (.bl (decide (i ≤ j)))) := rfl
theorem c_gt {i j : Int} : cmpop .gt (.int i) (.int j) = .ok (.val (.bl (decide (j < i)))) := rfl
theorem c_ge {i j : Int} : cmpop .ge (.int i) (.int j) = .ok (.val (.bl (decide (j ≤ i)))) := rfl
theorem c_ind {k : Str} {ks : List (Str × D)} : cmpop .inn (.str k) (.dct ks) = .ok (.val (.bl (has ks k))) := rfl
theorem c_nind {k : Str} {ks : List (Str × D)} : cmpop .notin (.str k) (.dct ks) = .ok (.val (.bl (!has ks k))) := rfl
theorem r_of {n : Int} (h0 : 0 ≤ n) (h : n < lim) : rangeOf (.val (.int n)) = .ok ((List.range n.toNat).map fun (i : Nat) => D.int i) := by
  show (if -(2 ^ 62) ≤ n ∧ n < lim then Rs.ok ((List.range n.toNat).map fun (i : Nat) => D.int i) else Rs.stuck) = _
  rw [if_pos ⟨by omega, h⟩]
end Ev
set_option Elab.async false
set_option linter.all false
set_option maxRecDepth 100000
set_option maxHeartbeats 4000000
set_option autoImplicit false
/-! Names, kinds, values: what they look like, how large they are. -/
namespace Ev
open PySem L2

/-! ### texts -/
theorem small_c {j : Int} (h0 : -(2 ^ 64) < j) (h1 : j < 2 ^ 64) : smallI j = true := by
  unfold smallI
  rw [decide_eq_true h0, decide_eq_true h1]
  rfl
theorem app_cps (x y : Str) : (x ++ y).cps.toList = x.cps.toList ++ y.cps.toList := by
  show (x.cps ++ y.cps).toList = _
  rw [Array.toList_append]
theorem cut_cps (x : Str) (lo hi : Option Int) : (cutS x lo hi).cps.toList = (x.cps.toList.drop (HT.sIx x.length 0 lo)).take (HT.sIx x.length x.length hi - HT.sIx x.length 0 lo) := rfl
theorem cut_mem {x : Str} {lo hi : Option Int} {c : Nat} (h : c ∈ (cutS x lo hi).cps.toList) : c ∈ x.cps.toList := by
  rw [cut_cps] at h
  exact List.mem_of_mem_drop (List.mem_of_mem_take h)
theorem cps_len (x : Str) : x.cps.toList.length = x.length := Array.length_toList
theorem one_len (c : Nat) : (⟨#[c]⟩ : Str).length = 1 := rfl
/-- small letters all -/
def Low (x : Str) : Prop := ∀ c, c ∈ x.cps.toList → 97 ≤ c ∧ c ≤ 122
theorem Low.app {x y : Str} (h : Low x) (k : Low y) : Low (x ++ y) := fun c hc => by
  rw [app_cps] at hc
  exact (List.mem_append.mp hc).elim (h c) (k c)
theorem Low.cut {x : Str} (h : Low x) (lo hi : Option Int) : Low (cutS x lo hi) := fun c hc => h c (cut_mem hc)
theorem Low.one {c : Nat} (h : 97 ≤ c ∧ c ≤ 122) : Low ⟨#[c]⟩ := fun d hd => by
  have e : d = c := by simpa using hd
  rw [e]; exact h
def lowB (x : Str) : Bool := x.cps.toList.all fun c => decide (97 ≤ c) && decide (c ≤ 122)
theorem Low.lit {x : Str} (h : lowB x = true) : Low x := fun c hc => by
  have z := List.all_eq_true.mp h c hc
  rw [Bool.and_eq_true, decide_eq_true_eq, decide_eq_true_eq] at z
  exact z
/-- a name: one to twelve small letters -/
structure NmOk (x : Str) : Prop where
  pos : 0 < x.length
  len : x.length ≤ 12
  low : Low x
theorem NmOk.lit {x : Str} (h : (decide (0 < x.length) && decide (x.length ≤ 12) && lowB x) = true) : NmOk x := by
  rw [Bool.and_eq_true, Bool.and_eq_true, decide_eq_true_eq, decide_eq_true_eq] at h
  exact ⟨h.1.1, h.1.2, .lit h.2⟩
theorem NmOk.strIn {x : Str} (h : NmOk x) : StrIn 12 x := ⟨h.len, fun c hc => Nat.lt_of_le_of_lt (h.low c hc).2 (by decide)⟩
/-- one sign of an alphabet of 26 -/
def alphaB (al : Str) : Bool := decide (al.length = 26) && lowB al
theorem sub_sign {x : Str} {i : Int} (h0 : 0 ≤ i) (h1 : i < x.length) (hl : x.length ≤ lim) : ∃ c : Nat, subop (.str x) (.int i) = .ok (.val (.str ⟨#[c]⟩)) ∧ c ∈ x.cps.toList ∧ x.cps.toList[i.toNat]? = some c := by
  obtain ⟨c, e, m, g⟩ := atI_some (l := x.cps.toList) h0 (by rw [cps_len]; exact h1)
  exact ⟨c, sub_str e hl, m, g⟩
theorem letterA {al : Str} (h : alphaB al = true) (i : Int) : ∃ c : Nat, subop (.str al) (.int (i.fmod 26)) = .ok (.val (.str ⟨#[c]⟩)) ∧ 97 ≤ c ∧ c ≤ 122 := by
  unfold alphaB at h
  rw [Bool.and_eq_true, decide_eq_true_eq] at h
  obtain ⟨h0, h1⟩ := fmod_range (a := i) (m := 26) (by decide)
  have z : lim = 16777216 := rfl
  obtain ⟨c, e, m, _⟩ := sub_sign (x := al) h0 (by rw [h.1]; exact h1) (by rw [h.1, z]; decide)
  exact ⟨c, e, Low.lit h.2 c m⟩
theorem slc_str {x : Str} {lo hi : Option Int} (h : x.length ≤ lim) : slcop (.str x) lo hi = .ok (.val (.str (cutS x lo hi))) := by
  show (if x.length ≤ lim then Rs.ok (RV.val (.str (cutS x lo hi))) else Rs.stuck) = _
  rw [if_pos h]
/-- overmany with another sign at a place -/
theorem over_nm {i : Int} (h0 : 0 ≤ i) (h1 : i < 8) {c : Nat} (hc : 97 ≤ c ∧ c ≤ 122) : NmOk (cutS "overmany" none (some i) ++ ⟨#[c]⟩ ++ cutS "overmany" (some (i + 1)) none) := by
  have lo : Low "overmany" := .lit (by decide +kernel)
  have e : (cutS "overmany" none (some i)).length + (cutS "overmany" (some (i + 1)) none).length = 7 := by
    have hi : i = 0 ∨ i = 1 ∨ i = 2 ∨ i = 3 ∨ i = 4 ∨ i = 5 ∨ i = 6 ∨ i = 7 := by omega
    rcases hi with e | e | e | e | e | e | e | e <;> (rw [e]; decide +kernel)
  refine ⟨?_, ?_, ((lo.cut _ _).app (.one hc)).app (lo.cut _ _)⟩ <;> (rw [app_len, app_len, one_len]; omega)
theorem over_len {i j : Int} : (cutS "overmany" none (some i)).length + (⟨#[0]⟩ : Str).length ≤ lim := by
  have h := cutS_le "overmany" none (some i)
  have e : ("overmany" : Str).length = 8 := rfl
  have z : lim = 16777216 := rfl
  rw [one_len]
  omega
/-- single signs joined -/
theorem join_low : ∀ {xs : List D}, (∀ x, x ∈ xs → ∃ c : Nat, x = .str ⟨#[c]⟩ ∧ 97 ≤ c ∧ c ≤ 122) → xs.length ≤ lim → ∃ t, mthop .join (.str "") [.lst xs] = .ok (.val (.str t)) ∧ t.length = xs.length ∧ Low t := by
  have go : ∀ xs : List D, (∀ x, x ∈ xs → ∃ c : Nat, x = .str ⟨#[c]⟩ ∧ 97 ≤ c ∧ c ≤ 122) → ∃ ys : List Str, strsOf xs = .ok ys ∧ ys.length = xs.length ∧ joinLen "" ys = xs.length ∧ (Str.join "" ys).length = xs.length ∧ Low (Str.join "" ys) := by
    intro xs
    induction xs with
    | nil => intro _; exact ⟨[], rfl, rfl, rfl, rfl, fun c h => by cases h⟩
    | cons x r ih =>
      intro h
      obtain ⟨c, e, h1⟩ := h x List.mem_cons_self
      obtain ⟨ys, e1, e2, e3, e4, e5⟩ := ih fun w hw => h w (List.mem_cons_of_mem _ hw)
      subst e
      refine ⟨⟨#[c]⟩ :: ys, ?_, by rw [List.length_cons, List.length_cons, e2], ?_, ?_⟩
      · show (strsOf r).bind _ = _
        rw [e1]
        rfl
      · unfold joinLen at e3 ⊢
        rw [List.map_cons, List.sum_cons, e3, List.length_cons, one_len]
        have z : ("" : Str).length = 0 := rfl
        omega
      · cases ys with
        | nil =>
          have z : r.length = 0 := e2.symm
          refine ⟨?_, Low.one h1⟩
          show (⟨#[c]⟩ : Str).length = _
          rw [List.length_cons, z, one_len]
        | cons y ys =>
          have l0 : Low ("" : Str) := fun c h => by cases h
          refine ⟨?_, ((Low.one h1).app l0).app e5⟩
          show ((⟨#[c]⟩ : Str) ++ "" ++ Str.join "" (y :: ys)).length = _
          rw [app_len, app_len, e4, one_len, List.length_cons]
          have z : ("" : Str).length = 0 := rfl
          omega
  intro xs h hl
  obtain ⟨ys, e1, e2, e3, e4, e5⟩ := go xs h
  refine ⟨Str.join "" ys, ?_, e4, e5⟩
  show (strsOf xs).bind _ = _
  rw [e1]
  show (if joinLen "" ys ≤ lim ∧ ys.length ≤ lim then Rs.ok (RV.val (.str (Str.join "" ys))) else Rs.stuck) = _
  rw [if_pos ⟨by omega, by omega⟩]

/-! ### look-ups -/
theorem has_look {ks : List (Str × D)} {n : Str} : has ks n = (look ks n).isSome := by
  cases h : has ks n with
  | true =>
    obtain ⟨d, e⟩ := look_has h
    rw [e]; rfl
  | false =>
    cases e : look ks n with
    | none => rfl
    | some d =>
      have z : has ks n = true := has_iff.mpr (List.mem_map.mpr ⟨_, lookQ_mem e, rfl⟩)
      rw [h] at z; cases z
theorem look_nil {n : Str} : look [] n = none := rfl
theorem look_cons {k n : Str} {v : D} {ks : List (Str × D)} : look ((k, v) :: ks) n = if k = n then some v else look ks n := by
  unfold look
  rw [List.find?_cons]
  by_cases q : k = n
  · rw [if_pos q, decide_eq_true q]; rfl
  · rw [if_neg q, decide_eq_false q]
theorem look_app {ks js : List (Str × D)} {n : Str} : look (ks ++ js) n = (look ks n).or (look js n) := by
  induction ks with
  | nil => rfl
  | cons p r ih =>
    obtain ⟨k, v⟩ := p
    rw [List.cons_append, look_cons, look_cons, ih]
    by_cases q : k = n
    · rw [if_pos q, if_pos q]; rfl
    · rw [if_neg q, if_neg q]
theorem look_put {ks : List (Str × D)} {k n : Str} {v : D} : look (put ks k v) n = if k = n then some v else look ks n := by
  unfold put
  by_cases h : has ks k = true
  · rw [if_pos h]
    rw [has_look] at h
    have go : ∀ ks : List (Str × D), look (ks.map fun kv => if kv.1 = k then (kv.1, v) else kv) n = if k = n then (look ks n).map (fun _ => v) else look ks n := by
      intro ks
      induction ks with
      | nil => by_cases q : k = n <;> simp [q, look]
      | cons p r ih =>
        obtain ⟨k', v'⟩ := p
        rw [List.map_cons]
        by_cases e : k' = k
        · rw [if_pos e, look_cons, look_cons, ih]
          by_cases q : k = n
          · rw [if_pos q, if_pos (e.trans q), if_pos q, if_pos (e.trans q)]; rfl
          · rw [if_neg q, if_neg (fun z => q (e.symm.trans z)), if_neg q, if_neg (fun z => q (e.symm.trans z))]
        · rw [if_neg e, look_cons, look_cons, ih]
          by_cases q : k = n
          · rw [if_pos q, if_pos q, if_neg (fun z => e (z.trans q.symm)), if_neg (fun z => e (z.trans q.symm))]
          · rw [if_neg q, if_neg q]
    rw [go]
    by_cases q : k = n
    · rw [if_pos q, if_pos q]
      rw [q] at h
      cases e : look ks n with
      | none => rw [e] at h; cases h
      | some w => rfl
    · rw [if_neg q, if_neg q]
  · rw [if_neg h, look_app, look_cons, look_nil]
    by_cases q : k = n
    · rw [if_pos q, if_pos q]
      have z : look ks n = none := by
        rw [← q]
        rw [has_look] at h
        cases e : look ks k with
        | none => rfl
        | some w => rw [e] at h; exact absurd rfl h
      rw [z]; rfl
    · rw [if_neg q, if_neg q]
      cases look ks n <;> rfl
theorem look_keys {ks : List (Str × D)} (h : Keys ks) {k : Str} {v : D} (m : (k, v) ∈ ks) : look ks k = some v := by
  induction ks with
  | nil => cases m
  | cons p r ih =>
    obtain ⟨k', v'⟩ := p
    unfold Keys at h
    rw [List.map_cons, List.nodup_cons] at h
    rw [look_cons]
    rcases List.mem_cons.mp m with e | m
    · cases e
      rw [if_pos rfl]
    · have ne : k' ≠ k := fun e => h.1 (by rw [show ((k', v') : Str × D).1 = k from e]; exact List.mem_map.mpr ⟨_, m, rfl⟩)
      rw [if_neg ne]
      exact ih h.2 m
theorem keys_nil : Keys [] := List.nodup_nil
theorem keys_drop {ks : List (Str × D)} (h : Keys ks) (k : Str) : Keys (drop ks k) := by
  unfold Keys drop at *
  exact List.Nodup.sublist (List.Sublist.map _ List.filter_sublist) h
theorem mem_drop {ks : List (Str × D)} {k : Str} {p : Str × D} (h : p ∈ drop ks k) : p ∈ ks := (List.mem_filter.mp h).1

/-! ### sizes -/
def bk (d : D) : Nat := d.py.bulk
def bkD (ks : List (Str × D)) : Nat := PyData.bulkKv (D.pyD ks)
def bkL (xs : List D) : Nat := PyData.bulkAll (D.pyL xs)
theorem bk_str (x : Str) : bk (.str x) = x.length := rfl
theorem bk_int (i : Int) : bk (.int i) = 0 := rfl
theorem bk_bl (i : Bool) : bk (.bl i) = 0 := rfl
theorem bk_non : bk .non = 0 := rfl
theorem bk_dct (ks : List (Str × D)) : bk (.dct ks) = bkD ks := rfl
theorem bkD_nil : bkD [] = 0 := rfl
theorem bkD_cons (k : Str) (v : D) (r : List (Str × D)) : bkD ((k, v) :: r) = k.length + bk v + 2 + bkD r := rfl
theorem bk_tup (xs : List D) : bk (.tup xs) = bkL xs := rfl
theorem bk_lst (xs : List D) : bk (.lst xs) = bkL xs := rfl
theorem bkL_nil : bkL [] = 0 := rfl
theorem bkL_cons (v : D) (r : List D) : bkL (v :: r) = bk v + 1 + bkL r := rfl
theorem bkD_app (ks js : List (Str × D)) : bkD (ks ++ js) = bkD ks + bkD js := by
  induction ks with
  | nil => show bkD js = 0 + bkD js; omega
  | cons p r ih =>
    obtain ⟨k, v⟩ := p
    rw [List.cons_append, bkD_cons, bkD_cons, ih]
    omega
theorem bkD_mem {ks : List (Str × D)} {p : Str × D} (h : p ∈ ks) : p.1.length + bk p.2 + 2 ≤ bkD ks := by
  induction ks with
  | nil => cases h
  | cons q r ih =>
    obtain ⟨k, v⟩ := q
    rw [bkD_cons]
    rcases List.mem_cons.mp h with e | h
    · rw [e]; show k.length + bk v + 2 ≤ _; omega
    · have := ih h; omega
theorem bkD_len (ks : List (Str × D)) : 2 * ks.length ≤ bkD ks := by
  induction ks with
  | nil => exact Nat.le_refl _
  | cons q r ih =>
    obtain ⟨k, v⟩ := q
    rw [bkD_cons, List.length_cons]
    omega
theorem bkL_len (xs : List D) : xs.length ≤ bkL xs := by
  induction xs with
  | nil => exact Nat.le_refl _
  | cons q r ih => rw [bkL_cons, List.length_cons]; omega
theorem bkL_mem {xs : List D} {d : D} (h : d ∈ xs) : bk d + 1 ≤ bkL xs := by
  induction xs with
  | nil => cases h
  | cons q r ih =>
    rw [bkL_cons]
    rcases List.mem_cons.mp h with e | h
    · rw [e]; omega
    · have := ih h; omega
theorem bkL_app (ks js : List D) : bkL (ks ++ js) = bkL ks + bkL js := by
  induction ks with
  | nil => show bkL js = 0 + bkL js; omega
  | cons p r ih => rw [List.cons_append, bkL_cons, bkL_cons, ih]; omega
theorem bkD_map {ks : List (Str × D)} {k : Str} {v : D} (h : Keys ks) : bkD (ks.map fun kv => if kv.1 = k then (kv.1, v) else kv) ≤ bkD ks + bk v := by
  induction ks with
  | nil => exact Nat.zero_le _
  | cons p r ih =>
    obtain ⟨k', v'⟩ := p
    unfold Keys at h
    rw [List.map_cons, List.nodup_cons] at h
    rw [List.map_cons]
    by_cases e : k' = k
    · rw [if_pos e]
      show k'.length + bk v + 2 + bkD _ ≤ k'.length + bk v' + 2 + bkD r + bk v
      have z : (r.map fun kv => if kv.1 = k then (kv.1, v) else kv) = r := by
        conv => rhs; rw [← List.map_id r]
        refine List.map_congr_left fun q hq => ?_
        have ne : q.1 ≠ k := fun z => h.1 (by show k' ∈ _; rw [e, ← z]; exact List.mem_map.mpr ⟨_, hq, rfl⟩)
        rw [if_neg ne]; rfl
      rw [z]
      omega
    · rw [if_neg e]
      show k'.length + bk v' + 2 + bkD _ ≤ k'.length + bk v' + 2 + bkD r + bk v
      have := ih h.2
      omega
theorem bkD_put {ks : List (Str × D)} {k : Str} {v : D} (h : Keys ks) : bkD (put ks k v) ≤ bkD ks + k.length + bk v + 2 := by
  unfold put
  split
  · have := bkD_map (v := v) (k := k) h
    omega
  · rw [bkD_app, bkD_cons, bkD_nil]
    omega
theorem bkD_drop (ks : List (Str × D)) (k : Str) : bkD (drop ks k) ≤ bkD ks := by
  unfold drop
  induction ks with
  | nil => exact Nat.le_refl _
  | cons p r ih =>
    obtain ⟨k', v⟩ := p
    by_cases e : k' = k
    · rw [List.filter_cons_of_neg (by simp [e]), bkD_cons]; omega
    · rw [List.filter_cons_of_pos (by simp [e]), bkD_cons, bkD_cons]; omega
/-- what can be shown, however long -/
structure Shw (m : Nat) (d : D) : Prop where
  sh : d.py.showable = true
  lv : d.py.leavesShort 30 = true
  dp : d.dep ≤ m
theorem Shw.nice {m B : Nat} {d : D} (h : Shw m d) (b : bk d ≤ B) : Nice B m d := ⟨h.sh, h.lv, b, h.dp⟩
theorem Shw.of {m B : Nat} {d : D} (h : Nice B m d) : Shw m d := ⟨h.sh, h.lv, h.dp⟩
theorem Shw.ok {m : Nat} {d : D} (h : Shw m d) (b : bk d ≤ 500000) (hm : m ≤ 150) : d.showOk = true := (h.nice b).show (by decide) hm
theorem Shw.mono {m m' : Nat} {d : D} (h : Shw m d) (hm : m ≤ m') : Shw m' d := ⟨h.sh, h.lv, Nat.le_trans h.dp hm⟩
theorem Shw.str {x : Str} (h : ∀ c, c ∈ x.cps.toList → c < 16 ^ 8) : Shw 0 (.str x) := .of (Nice.str (S := x.length) ⟨Nat.le_refl _, h⟩)
theorem NmOk.shw {x : Str} (h : NmOk x) : Shw 0 (.str x) := .str h.strIn.2
theorem Shw.dct {m : Nat} {ks : List (Str × D)} (h : ∀ p, p ∈ ks → NmOk p.1) (k : ∀ p, p ∈ ks → Shw m p.2) : Shw (m + 1) (.dct ks) := by
  have z : Nice (ks.length * (12 + bkD ks + 2)) (m + 1) (.dct ks) := Nice.dct fun p hp => ⟨(h p hp).strIn, (k p hp).nice (by have := bkD_mem hp; omega)⟩
  exact .of z
theorem Shw.lst {m : Nat} {xs : List D} (h : ∀ d, d ∈ xs → Shw m d) : Shw (m + 1) (.lst xs) ∧ Shw (m + 1) (.tup xs) := by
  have z : PyData.showableAll (D.pyL xs) = true ∧ PyData.leavesShortAll 30 (D.pyL xs) = true ∧ D.depL xs ≤ m := by
    induction xs with
    | nil => exact ⟨rfl, rfl, Nat.zero_le _⟩
    | cons x r ih =>
      obtain ⟨h1, h2, h3⟩ := ih fun d hd => h d (List.mem_cons_of_mem _ hd)
      have h4 := h x List.mem_cons_self
      refine ⟨?_, ?_, ?_⟩
      · show (x.py.showable && PyData.showableAll (D.pyL r)) = true
        rw [h4.sh, h1]; rfl
      · show (x.py.leavesShort 30 && PyData.leavesShortAll 30 (D.pyL r)) = true
        rw [h4.lv, h2]; rfl
      · show max x.dep (D.depL r) ≤ m
        have := h4.dp
        omega
  obtain ⟨h1, h2, h3⟩ := z
  exact ⟨⟨h1, h2, by show D.depL xs + 1 ≤ m + 1; omega⟩, ⟨h1, h2, by show D.depL xs + 1 ≤ m + 1; omega⟩⟩

/-! ### kinds -/
inductive Kd : Nat → D → Prop where
  | num {m : Nat} : Kd m (.str "num")
  | tru {m : Nat} : Kd m (.str "truth")
  | tup {m : Nat} {nm : Str} {ks : List (Str × D)} (h : nm = "record" ∨ nm = "choice" ∧ ks ≠ []) (k : Keys ks) (n : ∀ p, p ∈ ks → NmOk p.1) (a : ∀ p, p ∈ ks → Kd m p.2) : Kd (m + 1) (.tup [.str nm, .dct ks])
theorem Kd.mono {m : Nat} {d : D} (h : Kd m d) : ∀ {m' : Nat}, m ≤ m' → Kd m' d := by
  induction h with
  | num => intro _ _; exact .num
  | tru => intro _ _; exact .tru
  | tup h k n a ih =>
    intro m' hm
    cases m' with
    | zero => omega
    | succ m' => exact .tup h k n fun p hp => ih p hp (by omega)
theorem shw_num : Shw 0 (.str "num") := .str (by decide +kernel)
theorem shw_tru : Shw 0 (.str "truth") := .str (by decide +kernel)
theorem Kd.shw {m : Nat} {d : D} (h : Kd m d) : Shw (2 * m) d := by
  induction h with
  | num => exact shw_num.mono (Nat.zero_le _)
  | tru => exact shw_tru.mono (Nat.zero_le _)
  | @tup m nm ks h k n a ih =>
    have e : Shw 0 (.str nm) := by
      rcases h with h | h
      · rw [h]; exact .str (by decide +kernel)
      · rw [h.1]; exact .str (by decide +kernel)
    have z := (Shw.lst (m := 2 * m + 1) (xs := [.str nm, .dct ks]) fun d hd => by
      rcases List.mem_cons.mp hd with q | q
      · rw [q]; exact e.mono (Nat.zero_le _)
      · have q : d = .dct ks := by simpa using q
        rw [q]
        exact Shw.dct n ih).2
    exact z.mono (by omega)
/-- a plain kind, or one with parts -/
theorem Kd.cas {m : Nat} {d : D} (h : Kd m d) : (d = .str "num" ∨ d = .str "truth") ∨ ∃ m' nm ks, m = m' + 1 ∧ d = .tup [.str nm, .dct ks] ∧ (nm = "record" ∨ nm = "choice" ∧ ks ≠ []) ∧ Keys ks ∧ (∀ p, p ∈ ks → NmOk p.1) ∧ ∀ p, p ∈ ks → Kd m' p.2 := by
  cases h with
  | num => exact .inl (.inl rfl)
  | tru => exact .inl (.inr rfl)
  | tup h k n a => exact .inr ⟨_, _, _, rfl, rfl, h, k, n, a⟩
theorem Kd.inv {m : Nat} {nm : Str} {ks : List (Str × D)} (h : Kd m (.tup [.str nm, .dct ks])) : ∃ m', m = m' + 1 ∧ (nm = "record" ∨ nm = "choice" ∧ ks ≠ []) ∧ Keys ks ∧ (∀ p, p ∈ ks → NmOk p.1) ∧ ∀ p, p ∈ ks → Kd m' p.2 := by
  cases h with
  | tup h k n a => exact ⟨_, rfl, h, k, n, a⟩

/-! ### values -/
inductive Vd : Nat → D → Prop where
  | int {m : Nat} {i : Int} (h : i.natAbs < 10 ^ 29) : Vd m (.int i)
  | bl {m : Nat} {b : Bool} : Vd m (.bl b)
  | dct {m : Nat} {ks : List (Str × D)} (k : Keys ks) (n : ∀ p, p ∈ ks → NmOk p.1) (a : ∀ p, p ∈ ks → Vd m p.2) : Vd (m + 1) (.dct ks)
  | tup {m : Nat} {nm : Str} {v : D} (n : NmOk nm) (a : Vd m v) : Vd (m + 1) (.tup [.str nm, v])
theorem Vd.mono {m : Nat} {d : D} (h : Vd m d) : ∀ {m' : Nat}, m ≤ m' → Vd m' d := by
  induction h with
  | int h => intro _ _; exact .int h
  | bl => intro _ _; exact .bl
  | dct k n a ih =>
    intro m' hm
    cases m' with
    | zero => omega
    | succ m' => exact .dct k n fun p hp => ih p hp (by omega)
  | tup n a ih =>
    intro m' hm
    cases m' with
    | zero => omega
    | succ m' => exact .tup n (ih (by omega))
theorem Vd.shw {m : Nat} {d : D} (h : Vd m d) : Shw (m + 1) d := by
  induction h with
  | int h => exact (Shw.of (Nice.int h)).mono (Nat.zero_le _)
  | bl => exact (Shw.of Nice.bl).mono (Nat.zero_le _)
  | dct k n a ih => exact Shw.dct n ih
  | @tup m nm v n a ih =>
    exact (Shw.lst (m := m + 1) (xs := [.str nm, v]) fun d hd => by
      rcases List.mem_cons.mp hd with q | q
      · rw [q]; exact n.shw.mono (Nat.zero_le _)
      · have q : d = v := by simpa using q
        rw [q]
        exact ih).2

/-! ### which value is of which kind -/
inductive IsOf : D → D → Prop where
  | num (i : Int) : IsOf (.int i) (.str "num")
  | tru (b : Bool) : IsOf (.bl b) (.str "truth")
  | rcd {vs ks : List (Str × D)} (h : ∀ n k, look ks n = some k → (look vs n).isSome = true) (a : ∀ n k v, look ks n = some k → look vs n = some v → IsOf v k) : IsOf (.dct vs) (.tup [.str "record", .dct ks])
  | cho {n : Str} {v k : D} {ks : List (Str × D)} (h : look ks n = some k) (a : IsOf v k) : IsOf (.tup [.str n, v]) (.tup [.str "choice", .dct ks])
/-- which kind fits which -/
inductive Fit : D → D → Prop where
  | str (s : Str) : Fit (.str s) (.str s)
  | rcd {as bs : List (Str × D)} (h : ∀ n y, look bs n = some y → (look as n).isSome = true) (a : ∀ n x y, look as n = some x → look bs n = some y → Fit x y) : Fit (.tup [.str "record", .dct as]) (.tup [.str "record", .dct bs])
  | cho {as bs : List (Str × D)} (h : ∀ n x, look as n = some x → (look bs n).isSome = true) (a : ∀ n x y, look as n = some x → look bs n = some y → Fit x y) : Fit (.tup [.str "choice", .dct as]) (.tup [.str "choice", .dct bs])
theorem rec_ne : ("record" : Str) ≠ "choice" := by decide +kernel
theorem num_ne : ("num" : Str) ≠ "truth" := by decide +kernel
theorem Fit.isOf {a b : D} (h : Fit a b) : ∀ {v : D}, IsOf v a → IsOf v b := by
  induction h with
  | str s => intro v q; exact q
  | @rcd as bs h a ih =>
    intro v q
    cases q with
    | @rcd vs _ h2 a2 =>
      refine .rcd (fun n k e => ?_) (fun n k w e e2 => ?_)
      · have z := h n k e
        cases q : look as n with
        | none => rw [q] at z; cases z
        | some x => exact h2 n x q
      · have z := h n k e
        cases q : look as n with
        | none => rw [q] at z; cases z
        | some x => exact ih n x k q e (a2 n x w q e2)
  | @cho as bs h a ih =>
    intro v q
    cases q with
    | @cho n w k _ e a2 =>
      have z := h n k e
      cases q : look bs n with
      | none => rw [q] at z; cases z
      | some y => exact .cho q (ih n k y e q a2)
theorem Fit.refl {m : Nat} {d : D} (h : Kd m d) : Fit d d := by
  induction h with
  | num => exact .str _
  | tru => exact .str _
  | @tup m nm ks h k n a ih =>
    have one : ∀ n x y, look ks n = some x → look ks n = some y → Fit x y := fun n x y e f => by
      rw [e] at f
      cases f
      exact ih _ (lookQ_mem e)
    rcases h with h | ⟨h, _⟩
    · rw [h]
      exact .rcd (fun n y e => by rw [e]; rfl) one
    · rw [h]
      exact .cho (fun n y e => by rw [e]; rfl) one
theorem Fit.trans {a b : D} (h : Fit a b) : ∀ {c : D}, Fit b c → Fit a c := by
  induction h with
  | str s => intro c q; exact q
  | @rcd as bs h a ih =>
    intro c q
    cases q with
    | @rcd _ cs h2 a2 =>
      have mid : ∀ n z, look cs n = some z → ∃ y x, look bs n = some y ∧ look as n = some x := fun n z e => by
        have q := h2 n z e
        cases e2 : look bs n with
        | none => rw [e2] at q; cases q
        | some y =>
          have q := h n y e2
          cases e3 : look as n with
          | none => rw [e3] at q; cases q
          | some x => exact ⟨y, x, rfl, rfl⟩
      refine .rcd (fun n z e => ?_) (fun n x z e1 e => ?_)
      · obtain ⟨y, x, _, e3⟩ := mid n z e
        rw [e3]; rfl
      · obtain ⟨y, x', e2, e3⟩ := mid n z e
        rw [e1] at e3
        cases e3
        exact ih n x y e1 e2 (a2 n y z e2 e)
  | @cho as bs h a ih =>
    intro c q
    cases q with
    | @cho _ cs h2 a2 =>
      have mid : ∀ n x, look as n = some x → ∃ y z, look bs n = some y ∧ look cs n = some z := fun n x e => by
        have q := h n x e
        cases e2 : look bs n with
        | none => rw [e2] at q; cases q
        | some y =>
          have q := h2 n y e2
          cases e3 : look cs n with
          | none => rw [e3] at q; cases q
          | some z => exact ⟨y, z, rfl, rfl⟩
      refine .cho (fun n x e => ?_) (fun n x z e1 e => ?_)
      · obtain ⟨y, z, _, e3⟩ := mid n x e
        rw [e3]; rfl
      · obtain ⟨y, z', e2, e3⟩ := mid n x e1
        rw [e] at e3
        cases e3
        exact ih n x y e1 e2 (a2 n y z e2 e)
end Ev
set_option Elab.async false
set_option linter.all false
set_option maxRecDepth 100000
set_option maxHeartbeats 4000000
set_option autoImplicit false
/-! Defs that many laws have: what each gives. -/
namespace Ev
open PySem L2
/-- is it so? -/
noncomputable def tf (P : Prop) : Bool := @decide P (Classical.propDecidable P)
theorem tf_iff {P : Prop} : tf P = true ↔ P := by
  unfold tf
  exact @decide_eq_true_iff P (Classical.propDecidable P)
theorem tf_t {P : Prop} (h : P) : tf P = true := tf_iff.mpr h
theorem tf_f {P : Prop} (h : ¬ P) : tf P = false := by
  cases q : tf P with
  | true => exact absurd (tf_iff.mp q) h
  | false => rfl
theorem tf_eq {P Q : Prop} (h : P ↔ Q) : tf P = tf Q := by
  cases q : tf Q with
  | true => exact tf_t (h.mpr (tf_iff.mp q))
  | false => exact tf_f fun z => by rw [tf_t (h.mp z)] at q; cases q
theorem tf_dec {P : Prop} [Decidable P] : decide P = tf P := by
  by_cases h : P
  · rw [decide_eq_true h, tf_t h]
  · rw [decide_eq_false h, tf_f h]
section
variable {call : Nat → List RV → Rs RV} {sub : Sub} {e : En}
theorem q_an {b : Bool} : andR call sub e (.ok b) .nil = .ok b := by cases b <;> rfl
theorem q_on {b : Bool} : orR call sub e (.ok b) .nil = .ok b := by cases b <;> rfl
end
theorem c_nes {i j : Str} : cmpop .ne (.str i) (.str j) = .ok (.val (.bl (!decide (i = j)))) := by
  show (if eqOk (.str i) (.str j) = true ∧ neOk (.str i) (.str j) = true then Rs.ok (RV.val (.bl (!D.eqv (.str i) (.str j)))) else Rs.stuck) = _
  rw [if_pos ⟨eq_flat rfl, rfl⟩]
  simp only [D.eqv]
theorem c_neb {i j : Bool} : cmpop .ne (.bl i) (.bl j) = .ok (.val (.bl (!(i == j)))) := by
  show (if eqOk (.bl i) (.bl j) = true ∧ neOk (.bl i) (.bl j) = true then Rs.ok (RV.val (.bl (!D.eqv (.bl i) (.bl j)))) else Rs.stuck) = _
  rw [if_pos ⟨eq_flat rfl, rfl⟩]
  simp only [D.eqv]
theorem c_eqb {i j : Bool} : cmpop .eq (.bl i) (.bl j) = .ok (.val (.bl (i == j))) := by
  rw [c_eqd (eq_flat rfl)]
  simp only [D.eqv]
theorem all_mapB {A : Type} (f : A → Bool) (xs : List A) : bfnop .all [.lst (xs.map fun x => D.bl (f x))] = .ok (.val (.bl (xs.all f))) := by
  have e : boolsOf (xs.map fun x => D.bl (f x)) = .ok (xs.map f) := by
    induction xs with
    | nil => rfl
    | cons x r ih =>
      show (boolsOf (r.map fun x => D.bl (f x))).bind _ = _
      rw [ih]
      rfl
  show (boolsOf (xs.map fun x => D.bl (f x))).bind _ = _
  rw [e]
  show Rs.ok (RV.val (.bl ((xs.map f).all id))) = _
  rw [List.all_map]
  rfl
theorem rep_ok {d : D} (h : d.showOk = true) : bfnop .repr [d] = .ok (.val (.str d.shown)) := by
  show (if d.showOk = true then _ else _) = _
  rw [if_pos h]
theorem nth_names {ks : List (Str × D)} {i : Nat} {d : D} (h : (ks.map fun kv => D.str kv.1)[i]? = some d) : ∃ p, ks[i]? = some p ∧ d = .str p.1 ∧ p ∈ ks ∧ i < ks.length := by
  rw [List.getElem?_map] at h
  cases q : ks[i]? with
  | none => rw [q] at h; cases h
  | some p =>
    rw [q] at h
    exact ⟨p, rfl, (Option.some.inj h).symm, List.mem_of_getElem? q, (List.getElem?_eq_some_iff.mp q).1⟩
theorem bkD_look {ks : List (Str × D)} {n : Str} {d : D} (h : look ks n = some d) : n.length + bk d + 2 ≤ bkD ks := bkD_mem (lookQ_mem h)
theorem key_look {ks : List (Str × D)} {p : Str × D} (h : p ∈ ks) : ∃ d, look ks p.1 = some d := look_has (has_iff.mpr (List.mem_map.mpr ⟨p, h, rfl⟩))
section
variable {call : Nat → List RV → Rs RV} {sub : Sub} {e : En}
/-- all([.. for name in a dict]) -/
theorem all_names {elt : X} {t : Nat} {it : It} {ks : List (Str × D)} {P : Str → Prop} (hit : evIt call sub e it = .ok (ks.map fun kv => .str kv.1)) (hl : ks.length ≤ lim)
    (h : ∀ p, p ∈ ks → evX call sub ((wipeS [t] e).set t (.val (.str p.1))) elt = .ok (.val (.bl (tf (P p.1))))) :
    ∃ L, evX call sub e (.comp elt [t] it (.cbl true)) = .ok (.own (.lst L)) ∧ bfnop .all [.lst L] = .ok (.val (.bl (tf (∀ p, p ∈ ks → P p.1)))) := by
  have ec : evX call sub e (.comp elt [t] it (.cbl true)) = .ok (.own (.lst (ks.map fun p => D.bl (tf (P p.1))))) := by
    rw [x_comp, hit, bind_ok, if_pos (by rw [List.length_map]; exact hl)]
    rw [comp_map (g := fun (d : D) => match d with | .str n => D.bl (tf (P n)) | d => d) (fun d hd => ?_)]
    · rw [List.map_map]
      rfl
    · obtain ⟨p, hp, e3⟩ := List.mem_map.mp hd
      subst e3
      rw [set_one, bind_ok, x_bl, bind_ok, bl_val, bind_ok, if_pos rfl, h p hp]
      rfl
  refine ⟨_, ec, ?_⟩
  rw [all_mapB (fun p : Str × D => tf (P p.1)) ks]
  have z : (ks.all fun p => tf (P p.1)) = tf (∀ p, p ∈ ks → P p.1) := by
    cases q : ks.all fun p => tf (P p.1) with
    | true =>
      rw [List.all_eq_true] at q
      exact (tf_t fun p hp => tf_iff.mp (q p hp)).symm
    | false =>
      refine (tf_f fun z => ?_).symm
      rw [List.all_eq_false] at q
      obtain ⟨p, hp, w⟩ := q
      exact w (tf_t (z p hp))
  rw [z]
end
def F_is_of (i_is_of : Nat) : Fn where
  name := ("is_of" : Str)
  ps := [("value" : Str), ("kind" : Str)]
  N := [("value" : Str), ("kind" : Str), ("name" : Str)]
  body :=
    (.cons (.ifs (.cmp .eq (.var 1) (.cstr ("num" : Str))) (.cons (.ret (.and (.cons (.isi (.var 0) [.int]) (.cons (.not (.isi (.var 0) [.bool])) .nil))))
    .nil) .nil)
    (.cons (.ifs (.cmp .eq (.var 1) (.cstr ("truth" : Str))) (.cons (.ret (.isi (.var 0) [.bool]))
    .nil) .nil)
    (.cons (.ifs (.cmp .eq (.sub (.var 1) (.cint 0)) (.cstr ("record" : Str))) (.cons (.ifs (.not (.isi (.var 0) [.dict])) (.cons (.ret (.cbl false))
    .nil) .nil)
    (.cons (.ret (.bfn .all (.cons (.comp (.and (.cons (.cmp .inn (.var 2) (.var 0)) (.cons (.call i_is_of (.cons (.sub (.var 0) (.var 2)) (.cons (.sub (.sub (.var 1) (.cint 1)) (.var 2)) .nil))) .nil))) [2] (.ex (.sub (.var 1) (.cint 1))) (.cbl true)) .nil)))
    .nil)) .nil)
    (.cons (.ret (.and (.cons (.isi (.var 0) [.tuple]) (.cons (.cmp .inn (.sub (.var 0) (.cint 0)) (.sub (.var 1) (.cint 1))) (.cons (.call i_is_of (.cons (.sub (.var 0) (.cint 1)) (.cons (.sub (.sub (.var 1) (.cint 1)) (.sub (.var 0) (.cint 0))) .nil))) .nil)))))
    .nil))))
def F_fits (i_fits : Nat) : Fn where
  name := ("fits" : Str)
  ps := [("kind" : Str), ("other" : Str)]
  N := [("kind" : Str), ("other" : Str), ("name" : Str)]
  body :=
    (.cons (.ifs (.or (.cons (.isi (.var 0) [.str]) (.cons (.isi (.var 1) [.str]) .nil))) (.cons (.ret (.cmp .eq (.var 0) (.var 1)))
    .nil) .nil)
    (.cons (.ifs (.cmp .ne (.sub (.var 0) (.cint 0)) (.sub (.var 1) (.cint 0))) (.cons (.ret (.cbl false))
    .nil) .nil)
    (.cons (.ifs (.cmp .eq (.sub (.var 0) (.cint 0)) (.cstr ("record" : Str))) (.cons (.ret (.bfn .all (.cons (.comp (.and (.cons (.cmp .inn (.var 2) (.sub (.var 0) (.cint 1))) (.cons (.call i_fits (.cons (.sub (.sub (.var 0) (.cint 1)) (.var 2)) (.cons (.sub (.sub (.var 1) (.cint 1)) (.var 2)) .nil))) .nil))) [2] (.ex (.sub (.var 1) (.cint 1))) (.cbl true)) .nil)))
    .nil) .nil)
    (.cons (.ret (.bfn .all (.cons (.comp (.and (.cons (.cmp .inn (.var 2) (.sub (.var 1) (.cint 1))) (.cons (.call i_fits (.cons (.sub (.sub (.var 0) (.cint 1)) (.var 2)) (.cons (.sub (.sub (.var 1) (.cint 1)) (.var 2)) .nil))) .nil))) [2] (.ex (.sub (.var 0) (.cint 1))) (.cbl true)) .nil)))
    .nil))))
def F_law_cell_at : Fn where
  name := ("_law_cell_at" : Str)
  ps := [("_law_script" : Str), ("_law_k" : Str)]
  N := [("_law_script" : Str), ("_law_k" : Str)]
  body :=
    (.cons (.ifs (.cmp .lt (.var 1) (.bfn .len (.cons (.var 0) .nil))) (.cons (.ret (.sub (.var 0) (.var 1)))
    .nil) .nil)
    (.cons (.ret (.cint 0))
    .nil))
def F_law_next : Fn where
  name := ("_law_next" : Str)
  ps := [("_law_seed" : Str)]
  N := [("_law_seed" : Str)]
  body :=
    (.cons (.ret (.bin .mod (.bin .add (.bin .mul (.var 0) (.cint 48271)) (.cint 11)) (.cint 2147483647)))
    .nil)
def B_law_kind_by_0 (i_law_kind_by : Nat) (i_law_name_by : Nat) (i_law_next : Nat) : Ss :=
    (.cons (.asg 0 (.call i_law_next (.cons (.bin .add (.var 0) (.var 4)) .nil)))
    (.cons (.setI 3 (.call i_law_name_by (.cons (.bin .fdiv (.var 0) (.cint 3)) .nil)) (.call i_law_kind_by (.cons (.var 0) (.cons (.bin .sub (.var 1) (.cint 1)) .nil))))
    .nil))
def R_law_kind_by_0 (i_law_kind_by : Nat) (i_law_name_by : Nat) (i_law_next : Nat) : Ss :=
    (.frz 3 (.cons (.ret (.tup (.cons (.sub (.lst (.cons (.cstr ("record" : Str)) (.cons (.cstr ("choice" : Str)) .nil))) (.bin .sub (.var 2) (.cint 2))) (.cons (.var 3) .nil))))
    .nil))
def F_law_kind_by (i_law_kind_by : Nat) (i_law_name_by : Nat) (i_law_next : Nat) : Fn where
  name := ("_law_kind_by" : Str)
  ps := [("_law_seed" : Str), ("_law_deep" : Str)]
  N := [("_law_seed" : Str), ("_law_deep" : Str), ("_law_pick" : Str), ("_law_parts" : Str), ("_law_k" : Str)]
  body :=
    (.cons (.asg 0 (.call i_law_next (.cons (.var 0) .nil)))
    (.cons (.asg 2 (.bin .mod (.bin .fdiv (.var 0) (.cint 7)) (.cint 4)))
    (.cons (.ifs (.or (.cons (.cmp .eq (.var 1) (.cint 0)) (.cons (.cmp .lt (.var 2) (.cint 2)) .nil))) (.cons (.ret (.sub (.lst (.cons (.cstr ("num" : Str)) (.cons (.cstr ("truth" : Str)) .nil))) (.bin .mod (.var 2) (.cint 2))))
    .nil) .nil)
    (.cons (.asg 3 (.dct .nil))
    (.cons (.forr [4] (.range (.bin .sub (.bin .add (.bin .mod (.bin .fdiv (.var 0) (.cint 29)) (.cint 4)) (.var 2)) (.cint 2))) (B_law_kind_by_0 i_law_kind_by i_law_name_by i_law_next)) (R_law_kind_by_0 i_law_kind_by i_law_name_by i_law_next))))))

def F_name_by (i_next : Nat) (al : Str) (c1 c2 c3 c4 : Int) : Fn where
  name := ("_law_name_by" : Str)
  ps := [("_law_seed" : Str)]
  N := [("_law_seed" : Str), ("_law_some" : Str), ("_law_size" : Str), ("_law_signs" : Str), ("_law_k" : Str), ("_law_at" : Str)]
  body :=
    (.cons (.asg 1 (.cstr al))
    (.cons (.ifs (.cmp .eq (.bin .mod (.bin .fdiv (.var 0) (.cint 11)) (.cint 4)) (.cint 0)) (.cons (.asg 5 (.bin .mod (.bin .fdiv (.var 0) (.cint 44)) (.cint 8)))
    (.cons (.ret (.bin .add (.bin .add (.slc (.cstr ("overmany" : Str)) .cnon (.var 5)) (.sub (.var 1) (.bin .mod (.bin .fdiv (.var 0) (.cint 352)) (.cint 26)))) (.slc (.cstr ("overmany" : Str)) (.bin .add (.var 5) (.cint 1)) .cnon)))
    .nil)) .nil)
    (.cons (.asg 2 (.bin .add (.cint 1) (.bin .mod (.var 0) (.cint c1))))
    (.cons (.ifs (.cmp .eq (.bin .mod (.bin .fdiv (.var 0) (.cint c2)) (.cint 5)) (.cint 0)) (.cons (.asg 2 (.bin .add (.cint 1) (.bin .mod (.bin .fdiv (.var 0) (.cint c3)) (.cint 12))))
    .nil) .nil)
    (.cons (.asg 3 (.lst .nil))
    (.cons (.forr [4] (.range (.var 2)) (.cons (.app 3 (.sub (.var 1) (.bin .mod (.bin .fdiv (.var 0) (.cint c4)) (.cint 26))))
    (.cons (.asg 0 (.call i_next (.cons (.bin .add (.var 0) (.var 4)) .nil)))
    .nil))) (.cons (.ret (.mth .join (.cstr ("" : Str)) (.cons (.var 3) .nil)))
    .nil)))))))
def B_name (i_next : Nat) (c4 : Int) : Ss := (.cons (.app 3 (.sub (.var 1) (.bin .mod (.bin .fdiv (.var 0) (.cint c4)) (.cint 26))))
    (.cons (.asg 0 (.call i_next (.cons (.bin .add (.var 0) (.var 4)) .nil)))
    .nil))
/-- a small number to divide by -/
def divB (c : Int) : Bool := decide (0 < c) && decide (c < 2 ^ 60)
theorem divB_ok {c : Int} (h : divB c = true) : c ≠ 0 ∧ smallI c = true := by
  unfold divB at h
  rw [Bool.and_eq_true, decide_eq_true_eq, decide_eq_true_eq] at h
  exact ⟨by omega, small_c (by omega) (by omega)⟩
section
variable {T : Tab}
def nx (s : Int) : Int := (s * 48271 + 11).fmod 2147483647
theorem next_ok {i : Nat} (hf : T.fns[i]? = some F_law_next) {n : Nat} (s : Int) : callN T (n + 1) i [.val (.int s)] = .ok (.val (.int (nx s))) := by
  rw [call_fin T n i _ _ hf rfl]
  have m := b_mod (i := s * 48271 + 11) (j := 2147483647) (by decide)
  have u := b_mul (i := s) (j := 48271) (by decide)
  simp only [F_law_next, x_str, x_int, x_var, x_bin, x_cmp, x_bl, x_sub, x_slc, x_call, x_tup, x_lst, x_dct, x_and, x_or, x_not, x_isi, x_bfn, xs_nil, xs_cons, bind_ok, d_val, d_own, d_bor, c_eqi, c_eqs, c_lt, c_le, c_gt, c_ge, bl_val, cell_val, cell_own, cell_lent, cell_bor, vas_nil, vas_cons, va_val, va_own, b_add, b_sub, and_nil, or_nil, q_and, q_or, q_at, q_af, q_ot, q_of, c_ind, c_nind, pu_nil, mg_nil, q_an, q_on, c_nes, c_neb, c_eqb, Bool.not_true, Bool.not_false, q_cons, q_nx, q_ret, q_if, q_tt, q_ff, ss_nil, ss_frz, s_asg, s_ret, out_ok, give_val, give_own, fin_ret, fin_nx, ret_val, ret_own, frz_own, frz_val, frz_bor, List.getD_cons_zero, List.getD_cons_succ, startE, List.map_cons, List.map_nil, List.length_cons, List.length_nil, List.replicate, List.cons_append, List.nil_append, List.getElem?_cons_zero, List.getElem?_cons_succ, List.set_cons_zero, List.set_cons_succ, Nat.reduceSub, Nat.reduceAdd, decide_true, decide_false, Int.reduceAdd, Int.reduceSub, beq_self_eq_true, Bool.false_eq_true, if_false, if_true, m, u]
  rfl
theorem cell_ok {i : Nat} (hf : T.fns[i]? = some F_law_cell_at) {n : Nat} (ns : List Int) (k : Nat) (h : ns.length ≤ 63) (r : RV) (hr : r = .bor (.lst (ns.map .int)) ∨ r = .val (.lst (ns.map .int))) :
    callN T (n + 1) i [r, .val (.int k)] = .ok (.val (.int (ns.getD k 0))) := by
  rw [call_fin T n i _ _ hf rfl]
  have h1 : (ns.map D.int).length ≤ lim := by rw [List.length_map]; exact Nat.le_trans h (by decide)
  have len := len_lst h1
  rw [List.length_map] at len
  by_cases q : k < ns.length
  · have e : subop (.lst (ns.map .int)) (.int k) = .ok (.val (.int (ns.getD k 0))) := sub_lst (atI_nat (by rw [List.getElem?_map, List.getElem?_eq_getElem q, List.getD_eq_getElem?_getD, List.getElem?_eq_getElem q]; rfl))
    have c : decide ((k : Int) < (ns.length : Int)) = true := decide_eq_true (by omega)
    rcases hr with z | z <;> subst z <;> simp only [F_law_cell_at, x_str, x_int, x_var, x_bin, x_cmp, x_bl, x_sub, x_slc, x_call, x_tup, x_lst, x_dct, x_and, x_or, x_not, x_isi, x_bfn, xs_nil, xs_cons, bind_ok, d_val, d_own, d_bor, c_eqi, c_eqs, c_lt, c_le, c_gt, c_ge, bl_val, cell_val, cell_own, cell_lent, cell_bor, vas_nil, vas_cons, va_val, va_own, b_add, b_sub, and_nil, or_nil, q_and, q_or, q_at, q_af, q_ot, q_of, c_ind, c_nind, pu_nil, mg_nil, q_an, q_on, c_nes, c_neb, c_eqb, Bool.not_true, Bool.not_false, q_cons, q_nx, q_ret, q_if, q_tt, q_ff, ss_nil, ss_frz, s_asg, s_ret, out_ok, give_val, give_own, fin_ret, fin_nx, ret_val, ret_own, frz_own, frz_val, frz_bor, List.getD_cons_zero, List.getD_cons_succ, startE, List.map_cons, List.map_nil, List.length_cons, List.length_nil, List.replicate, List.cons_append, List.nil_append, List.getElem?_cons_zero, List.getElem?_cons_succ, List.set_cons_zero, List.set_cons_succ, Nat.reduceSub, Nat.reduceAdd, decide_true, decide_false, Int.reduceAdd, Int.reduceSub, beq_self_eq_true, Bool.false_eq_true, if_false, if_true, len, c, e]
  · have e : ns.getD k 0 = 0 := by rw [List.getD_eq_getElem?_getD, List.getElem?_eq_none (by omega)]; rfl
    have c : decide ((k : Int) < (ns.length : Int)) = false := decide_eq_false (by omega)
    rw [e]
    rcases hr with z | z <;> subst z <;> simp only [F_law_cell_at, x_str, x_int, x_var, x_bin, x_cmp, x_bl, x_sub, x_slc, x_call, x_tup, x_lst, x_dct, x_and, x_or, x_not, x_isi, x_bfn, xs_nil, xs_cons, bind_ok, d_val, d_own, d_bor, c_eqi, c_eqs, c_lt, c_le, c_gt, c_ge, bl_val, cell_val, cell_own, cell_lent, cell_bor, vas_nil, vas_cons, va_val, va_own, b_add, b_sub, and_nil, or_nil, q_and, q_or, q_at, q_af, q_ot, q_of, c_ind, c_nind, pu_nil, mg_nil, q_an, q_on, c_nes, c_neb, c_eqb, Bool.not_true, Bool.not_false, q_cons, q_nx, q_ret, q_if, q_tt, q_ff, ss_nil, ss_frz, s_asg, s_ret, out_ok, give_val, give_own, fin_ret, fin_nx, ret_val, ret_own, frz_own, frz_val, frz_bor, List.getD_cons_zero, List.getD_cons_succ, startE, List.map_cons, List.map_nil, List.length_cons, List.length_nil, List.replicate, List.cons_append, List.nil_append, List.getElem?_cons_zero, List.getElem?_cons_succ, List.set_cons_zero, List.set_cons_succ, Nat.reduceSub, Nat.reduceAdd, decide_true, decide_false, Int.reduceAdd, Int.reduceSub, beq_self_eq_true, Bool.false_eq_true, if_false, if_true, len, c]
theorem name_ok {i i_next : Nat} {al : Str} {c1 c2 c3 c4 : Int} (hf : T.fns[i]? = some (F_name_by i_next al c1 c2 c3 c4)) (hn : T.fns[i_next]? = some F_law_next) (ha : alphaB al = true) (h1 : decide (0 < c1 ∧ c1 ≤ 12) = true) (h2 : divB c2 = true) (h3 : divB c3 = true) (h4 : divB c4 = true)
    {n : Nat} (s : Int) : ∃ t, callN T (n + 2) i [.val (.int s)] = .ok (.val (.str t)) ∧ NmOk t := by
  rw [call_fin T (n + 1) i _ _ hf rfl]
  have nk := fun (s : Int) => next_ok (T := T) hn (n := n) s
  have h1 := of_decide_eq_true h1
  have b1 := fun (i : Int) => b_fdiv (i := i) (j := 11) ⟨by decide, by decide⟩
  have b2 := fun (i : Int) => b_fdiv (i := i) (j := 44) ⟨by decide, by decide⟩
  have b3 := fun (i : Int) => b_fdiv (i := i) (j := 352) ⟨by decide, by decide⟩
  have b4 := fun (i : Int) => b_fdiv (i := i) (divB_ok h2)
  have b5 := fun (i : Int) => b_fdiv (i := i) (divB_ok h3)
  have b6 := fun (i : Int) => b_fdiv (i := i) (divB_ok h4)
  have m1 := fun (i : Int) => b_mod (i := i) (j := c1) (by omega)
  have m4 := fun (i : Int) => b_mod (i := i) (j := 4) (by decide)
  have m8 := fun (i : Int) => b_mod (i := i) (j := 8) (by decide)
  have m26 := fun (i : Int) => b_mod (i := i) (j := 26) (by decide)
  have m5 := fun (i : Int) => b_mod (i := i) (j := 5) (by decide)
  have m12 := fun (i : Int) => b_mod (i := i) (j := 12) (by decide)
  have hlim : lim = 16777216 := rfl
  cases q : ((s.fdiv 11).fmod 4 == 0) with
  | true =>
    obtain ⟨c, e1, c1⟩ := letterA ha (s.fdiv 352)
    obtain ⟨r0, r1⟩ := fmod_range (a := s.fdiv 44) (m := 8) (by decide)
    have nm := over_nm r0 r1 c1
    have sl : ∀ lo hi : Option Int, slcop (.str "overmany") lo hi = .ok (.val (.str (cutS "overmany" lo hi))) := fun lo hi => slc_str (by decide +kernel)
    have bd : ∀ i : Int, bound (.val (.int i)) = .ok (some i) := fun _ => rfl
    have n1 : isNone .cnon = true := rfl
    have n2 : ¬ isNone (.var 5) = true := fun h => by cases h
    have n3 : ∀ a b, ¬ isNone (.bin .add a b) = true := fun _ _ h => by cases h
    have l1 := cutS_le "overmany" none (some ((s.fdiv 44).fmod 8))
    have l2 := cutS_le "overmany" (some ((s.fdiv 44).fmod 8 + 1)) none
    have l0 : ("overmany" : Str).length = 8 := rfl
    have g1 := b_str (x := cutS "overmany" none (some ((s.fdiv 44).fmod 8))) (y := ⟨#[c]⟩) (by rw [one_len]; omega)
    have g2 := b_str (x := cutS "overmany" none (some ((s.fdiv 44).fmod 8)) ++ ⟨#[c]⟩) (y := cutS "overmany" (some ((s.fdiv 44).fmod 8 + 1)) none) (by rw [app_len, one_len]; omega)
    refine ⟨_, ?_, nm⟩
    simp only [F_name_by, x_str, x_int, x_var, x_bin, x_cmp, x_bl, x_sub, x_slc, x_call, x_tup, x_lst, x_dct, x_and, x_or, x_not, x_isi, x_bfn, xs_nil, xs_cons, bind_ok, d_val, d_own, d_bor, c_eqi, c_eqs, c_lt, c_le, c_gt, c_ge, bl_val, cell_val, cell_own, cell_lent, cell_bor, vas_nil, vas_cons, va_val, va_own, b_add, b_sub, and_nil, or_nil, q_and, q_or, q_at, q_af, q_ot, q_of, c_ind, c_nind, pu_nil, mg_nil, q_an, q_on, c_nes, c_neb, c_eqb, Bool.not_true, Bool.not_false, q_cons, q_nx, q_ret, q_if, q_tt, q_ff, ss_nil, ss_frz, s_asg, s_ret, out_ok, give_val, give_own, fin_ret, fin_nx, ret_val, ret_own, frz_own, frz_val, frz_bor, List.getD_cons_zero, List.getD_cons_succ, startE, List.map_cons, List.map_nil, List.length_cons, List.length_nil, List.replicate, List.cons_append, List.nil_append, List.getElem?_cons_zero, List.getElem?_cons_succ, List.set_cons_zero, List.set_cons_succ, Nat.reduceSub, Nat.reduceAdd, decide_true, decide_false, Int.reduceAdd, Int.reduceSub, beq_self_eq_true, Bool.false_eq_true, if_false, if_true, b1, b2, b3, m4, m8, m26, q, e1, sl, n1, n2, n3, if_pos, if_neg, bd, g1, g2]
  | false =>
    have size : ∃ z : Int, 1 ≤ z ∧ z ≤ 12 ∧ evSs (callN T (n + 1)) T.sub (startE 6 [.val (.int s)]) (F_name_by i_next al c1 c2 c3 c4).body =
        evSs (callN T (n + 1)) T.sub [.val (.int s), .val (.str al), .val (.int z), .own (.lst []), .no, .no] (.cons (.forr [4] (.range (.var 2)) (B_name i_next c4)) (.cons (.ret (.mth .join (.cstr ("" : Str)) (.cons (.var 3) .nil))) .nil)) := by
      cases q2 : ((s.fdiv c2).fmod 5 == 0) with
      | true =>
        obtain ⟨h0, h1⟩ := fmod_range (a := s.fdiv c3) (m := 12) (by decide)
        refine ⟨1 + (s.fdiv c3).fmod 12, by omega, by omega, ?_⟩
        simp only [F_name_by, B_name, x_str, x_int, x_var, x_bin, x_cmp, x_bl, x_sub, x_slc, x_call, x_tup, x_lst, x_dct, x_and, x_or, x_not, x_isi, x_bfn, xs_nil, xs_cons, bind_ok, d_val, d_own, d_bor, c_eqi, c_eqs, c_lt, c_le, c_gt, c_ge, bl_val, cell_val, cell_own, cell_lent, cell_bor, vas_nil, vas_cons, va_val, va_own, b_add, b_sub, and_nil, or_nil, q_and, q_or, q_at, q_af, q_ot, q_of, c_ind, c_nind, pu_nil, mg_nil, q_an, q_on, c_nes, c_neb, c_eqb, Bool.not_true, Bool.not_false, q_cons, q_nx, q_ret, q_if, q_tt, q_ff, ss_nil, ss_frz, s_asg, s_ret, out_ok, give_val, give_own, fin_ret, fin_nx, ret_val, ret_own, frz_own, frz_val, frz_bor, List.getD_cons_zero, List.getD_cons_succ, startE, List.map_cons, List.map_nil, List.length_cons, List.length_nil, List.replicate, List.cons_append, List.nil_append, List.getElem?_cons_zero, List.getElem?_cons_succ, List.set_cons_zero, List.set_cons_succ, Nat.reduceSub, Nat.reduceAdd, decide_true, decide_false, Int.reduceAdd, Int.reduceSub, beq_self_eq_true, Bool.false_eq_true, if_false, if_true, b1, b4, b5, m1, m4, m5, m12, q, q2]
      | false =>
        obtain ⟨h0, h1⟩ := fmod_range (a := s) (m := c1) (by omega)
        refine ⟨1 + s.fmod c1, by omega, by omega, ?_⟩
        simp only [F_name_by, B_name, x_str, x_int, x_var, x_bin, x_cmp, x_bl, x_sub, x_slc, x_call, x_tup, x_lst, x_dct, x_and, x_or, x_not, x_isi, x_bfn, xs_nil, xs_cons, bind_ok, d_val, d_own, d_bor, c_eqi, c_eqs, c_lt, c_le, c_gt, c_ge, bl_val, cell_val, cell_own, cell_lent, cell_bor, vas_nil, vas_cons, va_val, va_own, b_add, b_sub, and_nil, or_nil, q_and, q_or, q_at, q_af, q_ot, q_of, c_ind, c_nind, pu_nil, mg_nil, q_an, q_on, c_nes, c_neb, c_eqb, Bool.not_true, Bool.not_false, q_cons, q_nx, q_ret, q_if, q_tt, q_ff, ss_nil, ss_frz, s_asg, s_ret, out_ok, give_val, give_own, fin_ret, fin_nx, ret_val, ret_own, frz_own, frz_val, frz_bor, List.getD_cons_zero, List.getD_cons_succ, startE, List.map_cons, List.map_nil, List.length_cons, List.length_nil, List.replicate, List.cons_append, List.nil_append, List.getElem?_cons_zero, List.getElem?_cons_succ, List.set_cons_zero, List.set_cons_succ, Nat.reduceSub, Nat.reduceAdd, decide_true, decide_false, Int.reduceAdd, Int.reduceSub, beq_self_eq_true, Bool.false_eq_true, if_false, if_true, b1, b4, b5, m1, m4, m5, m12, q, q2]
    obtain ⟨z, z1, z2, ez⟩ := size
    have ez : evSs (callN T (n + 1)) T.sub (startE (F_name_by i_next al c1 c2 c3 c4).N.length [.val (.int s)]) (F_name_by i_next al c1 c2 c3 c4).body = _ := ez
    rw [ez, q_cons]
    have hz : (lim : Int) = 16777216 := rfl
    have it1 : evIt (callN T (n + 1)) T.sub [.val (.int s), .val (.str al), .val (.int z), .own (.lst []), .no, .no] (.range (.var 2)) = .ok ((List.range z.toNat).map fun (i : Nat) => D.int i) := by
      rw [i_range, x_var]
      exact r_of (by omega) (by omega)
    obtain ⟨e', k1, k2⟩ := for_inv (tg := [4]) (b := B_name i_next c4) it1 (fun i e => ∃ (s' : Int) (xs : List D) (c : Cel), e = [.val (.int s'), .val (.str al), .val (.int z), .own (.lst xs), c, .no] ∧ xs.length = i ∧ ∀ x, x ∈ xs → ∃ c : Nat, x = .str ⟨#[c]⟩ ∧ 97 ≤ c ∧ c ≤ 122)
      ⟨s, [], .no, rfl, rfl, fun x h => by cases h⟩ (fun i d e1 hd ⟨s', xs, c, e0, hl, hx⟩ => by
        obtain ⟨ed, hi⟩ := get_range hd
        subst ed e0
        obtain ⟨c2, e2, c3⟩ := letterA ha (s'.fdiv c4)
        refine ⟨_, _, set_one, ?_, nx (s' + i), xs ++ [.str ⟨#[c2]⟩], .val (.int i), rfl, by rw [List.length_append, hl]; rfl, fun x h => ?_⟩
        · have hlt : xs.length < lim := by rw [hl]; omega
          unfold B_name
          rw [q_cons, s_appO (xs := xs) rfl]
          simp only [x_str, x_int, x_var, x_bin, x_cmp, x_bl, x_sub, x_slc, x_call, x_tup, x_lst, x_dct, x_and, x_or, x_not, x_isi, x_bfn, xs_nil, xs_cons, bind_ok, d_val, d_own, d_bor, c_eqi, c_eqs, c_lt, c_le, c_gt, c_ge, bl_val, cell_val, cell_own, cell_lent, cell_bor, vas_nil, vas_cons, va_val, va_own, b_add, b_sub, and_nil, or_nil, q_and, q_or, q_at, q_af, q_ot, q_of, c_ind, c_nind, pu_nil, mg_nil, q_an, q_on, c_nes, c_neb, c_eqb, Bool.not_true, Bool.not_false, q_cons, q_nx, q_ret, q_if, q_tt, q_ff, ss_nil, ss_frz, s_asg, s_ret, out_ok, give_val, give_own, fin_ret, fin_nx, ret_val, ret_own, frz_own, frz_val, frz_bor, List.getD_cons_zero, List.getD_cons_succ, startE, List.map_cons, List.map_nil, List.length_cons, List.length_nil, List.replicate, List.cons_append, List.nil_append, List.getElem?_cons_zero, List.getElem?_cons_succ, List.set_cons_zero, List.set_cons_succ, Nat.reduceSub, Nat.reduceAdd, decide_true, decide_false, Int.reduceAdd, Int.reduceSub, beq_self_eq_true, Bool.false_eq_true, if_false, if_true, b6, m26, e2, if_pos hlt, nk]
        · rcases List.mem_append.mp h with h | h
          · exact hx x h
          · have e3 : x = .str ⟨#[c2]⟩ := by simpa using h
            exact ⟨_, e3, c3⟩)
    obtain ⟨s', xs, c, e0, hl, hx⟩ := k2
    subst e0
    rw [List.length_map, List.length_range] at hl
    obtain ⟨t, j1, j2, j3⟩ := join_low hx (by omega)
    have k1 : evS (callN T (n + 1)) T.sub [.val (.int s), .val (.str al), .val (.int z), .own (.lst []), .no, .no] (.forr [4] (.range (.var 2)) (B_name i_next c4)) = .nx [.val (.int s'), .val (.str al), .val (.int z), .own (.lst xs), c, .no] := k1
    rw [k1, q_nx]
    have jo : mthOk .join (.str "") = true := rfl
    refine ⟨t, ?_, by omega, by omega, j3⟩
    simp only [x_str, x_int, x_var, x_bin, x_cmp, x_bl, x_sub, x_slc, x_call, x_tup, x_lst, x_dct, x_and, x_or, x_not, x_isi, x_bfn, xs_nil, xs_cons, bind_ok, d_val, d_own, d_bor, c_eqi, c_eqs, c_lt, c_le, c_gt, c_ge, bl_val, cell_val, cell_own, cell_lent, cell_bor, vas_nil, vas_cons, va_val, va_own, b_add, b_sub, and_nil, or_nil, q_and, q_or, q_at, q_af, q_ot, q_of, c_ind, c_nind, pu_nil, mg_nil, q_an, q_on, c_nes, c_neb, c_eqb, Bool.not_true, Bool.not_false, q_cons, q_nx, q_ret, q_if, q_tt, q_ff, ss_nil, ss_frz, s_asg, s_ret, out_ok, give_val, give_own, fin_ret, fin_nx, ret_val, ret_own, frz_own, frz_val, frz_bor, List.getD_cons_zero, List.getD_cons_succ, startE, List.map_cons, List.map_nil, List.length_cons, List.length_nil, List.replicate, List.cons_append, List.nil_append, List.getElem?_cons_zero, List.getElem?_cons_succ, List.set_cons_zero, List.set_cons_succ, Nat.reduceSub, Nat.reduceAdd, decide_true, decide_false, Int.reduceAdd, Int.reduceSub, beq_self_eq_true, Bool.false_eq_true, if_false, if_true, x_mth, if_pos jo, mthArg, j1]
/-- a plain kind by a number -/
theorem pick_plain (i : Int) : ∃ d, subop (.lst [.str "num", .str "truth"]) (.int (i.fmod 2)) = .ok (.val d) ∧ (d = .str "num" ∨ d = .str "truth") := by
  obtain ⟨h0, h1⟩ := fmod_range (a := i) (m := 2) (by decide)
  have e : i.fmod 2 = 0 ∨ i.fmod 2 = 1 := by omega
  rcases e with e | e
  · rw [e]; exact ⟨_, rfl, .inl rfl⟩
  · rw [e]; exact ⟨_, rfl, .inr rfl⟩
theorem Kd.plain {m : Nat} {d : D} (h : d = .str "num" ∨ d = .str "truth") : Kd m d ∧ bk d ≤ 5 := by
  rcases h with e | e
  · rw [e]; exact ⟨.num, by decide +kernel⟩
  · rw [e]; exact ⟨.tru, by decide +kernel⟩
def kbk : Nat → Nat
  | 0 => 5
  | m + 1 => 8 + 4 * (14 + kbk m)
theorem kbk_5 : ∀ m, 5 ≤ kbk m
  | 0 => Nat.le_refl _
  | m + 1 => by show 5 ≤ 8 + 4 * (14 + kbk m); omega
theorem bk_pair (nm : Str) (ks : List (Str × D)) : bk (.tup [.str nm, .dct ks]) = nm.length + bkD ks + 2 := by
  rw [bk_tup, bkL_cons, bkL_cons, bkL_nil, bk_str, bk_dct]
  omega
theorem keys_put {ks : List (Str × D)} {k : Str} {v : D} (h : Keys ks) : Keys (put ks k v) := put_keys h
theorem kind_ok {i i_name i_next : Nat} (hf : T.fns[i]? = some (F_law_kind_by i i_name i_next)) (hn : T.fns[i_next]? = some F_law_next) (hm : ∀ (n : Nat) (s : Int), ∃ t, callN T (n + 2) i_name [.val (.int s)] = .ok (.val (.str t)) ∧ NmOk t) :
    ∀ (m k : Nat) (s : Int), m + 3 ≤ k → ∃ d, callN T k i [.val (.int s), .val (.int m)] = .ok (.val d) ∧ Kd m d ∧ bk d ≤ kbk m
  | m, 0, s, h => by omega
  | m, k + 1, s, h => by
    obtain ⟨k', ek⟩ : ∃ k', k = k' + 2 := ⟨k - 2, by omega⟩
    have nk := fun (s : Int) => next_ok (T := T) hn (n := k' + 1) s
    rw [call_fin T k i _ _ hf rfl]
    have b7 := fun (i : Int) => b_fdiv (i := i) (j := 7) ⟨by decide, by decide⟩
    have b29 := fun (i : Int) => b_fdiv (i := i) (j := 29) ⟨by decide, by decide⟩
    have b3 := fun (i : Int) => b_fdiv (i := i) (j := 3) ⟨by decide, by decide⟩
    have m4 := fun (i : Int) => b_mod (i := i) (j := 4) (by decide)
    have m2 := fun (i : Int) => b_mod (i := i) (j := 2) (by decide)
    subst ek
    obtain ⟨d0, e0, hd0⟩ := pick_plain (((nx s).fdiv 7).fmod 4)
    have base : ∀ m, Kd m d0 ∧ bk d0 ≤ kbk m := fun m => ⟨(Kd.plain hd0).1, Nat.le_trans (Kd.plain (m := 0) hd0).2 (kbk_5 m)⟩
    cases m with
    | zero =>
      have z : ((0 : Nat) : Int) = 0 := rfl
      rw [z]
      refine ⟨d0, ?_, base 0⟩
      simp only [F_law_kind_by, x_str, x_int, x_var, x_bin, x_cmp, x_bl, x_sub, x_slc, x_call, x_tup, x_lst, x_dct, x_and, x_or, x_not, x_isi, x_bfn, xs_nil, xs_cons, bind_ok, d_val, d_own, d_bor, c_eqi, c_eqs, c_lt, c_le, c_gt, c_ge, bl_val, cell_val, cell_own, cell_lent, cell_bor, vas_nil, vas_cons, va_val, va_own, b_add, b_sub, and_nil, or_nil, q_and, q_or, q_at, q_af, q_ot, q_of, c_ind, c_nind, pu_nil, mg_nil, q_an, q_on, c_nes, c_neb, c_eqb, Bool.not_true, Bool.not_false, q_cons, q_nx, q_ret, q_if, q_tt, q_ff, ss_nil, ss_frz, s_asg, s_ret, out_ok, give_val, give_own, fin_ret, fin_nx, ret_val, ret_own, frz_own, frz_val, frz_bor, List.getD_cons_zero, List.getD_cons_succ, startE, List.map_cons, List.map_nil, List.length_cons, List.length_nil, List.replicate, List.cons_append, List.nil_append, List.getElem?_cons_zero, List.getElem?_cons_succ, List.set_cons_zero, List.set_cons_succ, Nat.reduceSub, Nat.reduceAdd, decide_true, decide_false, Int.reduceAdd, Int.reduceSub, beq_self_eq_true, Bool.false_eq_true, if_false, if_true, nk, b7, m4, m2, e0]
    | succ m =>
      have z : (((m + 1 : Nat) : Int) == 0) = false := by
        rw [beq_eq_false_iff_ne]
        omega
      cases q2 : decide (((nx s).fdiv 7).fmod 4 < 2) with
      | true =>
        refine ⟨d0, ?_, base (m + 1)⟩
        simp only [F_law_kind_by, x_str, x_int, x_var, x_bin, x_cmp, x_bl, x_sub, x_slc, x_call, x_tup, x_lst, x_dct, x_and, x_or, x_not, x_isi, x_bfn, xs_nil, xs_cons, bind_ok, d_val, d_own, d_bor, c_eqi, c_eqs, c_lt, c_le, c_gt, c_ge, bl_val, cell_val, cell_own, cell_lent, cell_bor, vas_nil, vas_cons, va_val, va_own, b_add, b_sub, and_nil, or_nil, q_and, q_or, q_at, q_af, q_ot, q_of, c_ind, c_nind, pu_nil, mg_nil, q_an, q_on, c_nes, c_neb, c_eqb, Bool.not_true, Bool.not_false, q_cons, q_nx, q_ret, q_if, q_tt, q_ff, ss_nil, ss_frz, s_asg, s_ret, out_ok, give_val, give_own, fin_ret, fin_nx, ret_val, ret_own, frz_own, frz_val, frz_bor, List.getD_cons_zero, List.getD_cons_succ, startE, List.map_cons, List.map_nil, List.length_cons, List.length_nil, List.replicate, List.cons_append, List.nil_append, List.getElem?_cons_zero, List.getElem?_cons_succ, List.set_cons_zero, List.set_cons_succ, Nat.reduceSub, Nat.reduceAdd, decide_true, decide_false, Int.reduceAdd, Int.reduceSub, beq_self_eq_true, Bool.false_eq_true, if_false, if_true, nk, b7, m4, m2, e0, z, q2]
      | false =>
        have q3 := of_decide_eq_false q2
        obtain ⟨p0, p1⟩ := fmod_range (a := (nx s).fdiv 7) (m := 4) (by decide)
        obtain ⟨r0, r1⟩ := fmod_range (a := (nx s).fdiv 29) (m := 4) (by decide)
        generalize hpk : ((nx s).fdiv 7).fmod 4 = pk at *
        generalize hrk : ((nx s).fdiv 29).fmod 4 = rk at *
        have hz : (lim : Int) = 16777216 := rfl
        have em : ((m + 1 : Nat) : Int) - 1 = m := by omega
        have ez : evSs (callN T (k' + 2)) T.sub (startE (F_law_kind_by i i_name i_next).N.length [.val (.int s), .val (.int ((m + 1 : Nat) : Int))]) (F_law_kind_by i i_name i_next).body =
            runSs (callN T (k' + 2)) T.sub (evS (callN T (k' + 2)) T.sub [.val (.int (nx s)), .val (.int ((m + 1 : Nat) : Int)), .val (.int pk), .own (.dct []), .no] (.forr [4] (.range (.bin .sub (.bin .add (.bin .mod (.bin .fdiv (.var 0) (.cint 29)) (.cint 4)) (.var 2)) (.cint 2))) (B_law_kind_by_0 i i_name i_next)))
              (R_law_kind_by_0 i i_name i_next) := by
          simp only [F_law_kind_by, x_str, x_int, x_var, x_bin, x_cmp, x_bl, x_sub, x_slc, x_call, x_tup, x_lst, x_dct, x_and, x_or, x_not, x_isi, x_bfn, xs_nil, xs_cons, bind_ok, d_val, d_own, d_bor, c_eqi, c_eqs, c_lt, c_le, c_gt, c_ge, bl_val, cell_val, cell_own, cell_lent, cell_bor, vas_nil, vas_cons, va_val, va_own, b_add, b_sub, and_nil, or_nil, q_and, q_or, q_at, q_af, q_ot, q_of, c_ind, c_nind, pu_nil, mg_nil, q_an, q_on, c_nes, c_neb, c_eqb, Bool.not_true, Bool.not_false, q_cons, q_nx, q_ret, q_if, q_tt, q_ff, ss_nil, ss_frz, s_asg, s_ret, out_ok, give_val, give_own, fin_ret, fin_nx, ret_val, ret_own, frz_own, frz_val, frz_bor, List.getD_cons_zero, List.getD_cons_succ, startE, List.map_cons, List.map_nil, List.length_cons, List.length_nil, List.replicate, List.cons_append, List.nil_append, List.getElem?_cons_zero, List.getElem?_cons_succ, List.set_cons_zero, List.set_cons_succ, Nat.reduceSub, Nat.reduceAdd, decide_true, decide_false, Int.reduceAdd, Int.reduceSub, beq_self_eq_true, Bool.false_eq_true, if_false, if_true, nk, b7, m4, m2, z, q2, hpk]
        rw [ez]
        have it1 : evIt (callN T (k' + 2)) T.sub [.val (.int (nx s)), .val (.int ((m + 1 : Nat) : Int)), .val (.int pk), .own (.dct []), .no] (.range (.bin .sub (.bin .add (.bin .mod (.bin .fdiv (.var 0) (.cint 29)) (.cint 4)) (.var 2)) (.cint 2))) = .ok ((List.range (rk + pk - 2).toNat).map fun (i : Nat) => D.int i) := by
          rw [i_range]
          simp only [x_str, x_int, x_var, x_bin, x_cmp, x_bl, x_sub, x_slc, x_call, x_tup, x_lst, x_dct, x_and, x_or, x_not, x_isi, x_bfn, xs_nil, xs_cons, bind_ok, d_val, d_own, d_bor, c_eqi, c_eqs, c_lt, c_le, c_gt, c_ge, bl_val, cell_val, cell_own, cell_lent, cell_bor, vas_nil, vas_cons, va_val, va_own, b_add, b_sub, and_nil, or_nil, q_and, q_or, q_at, q_af, q_ot, q_of, c_ind, c_nind, pu_nil, mg_nil, q_an, q_on, c_nes, c_neb, c_eqb, Bool.not_true, Bool.not_false, q_cons, q_nx, q_ret, q_if, q_tt, q_ff, ss_nil, ss_frz, s_asg, s_ret, out_ok, give_val, give_own, fin_ret, fin_nx, ret_val, ret_own, frz_own, frz_val, frz_bor, List.getD_cons_zero, List.getD_cons_succ, startE, List.map_cons, List.map_nil, List.length_cons, List.length_nil, List.replicate, List.cons_append, List.nil_append, List.getElem?_cons_zero, List.getElem?_cons_succ, List.set_cons_zero, List.set_cons_succ, Nat.reduceSub, Nat.reduceAdd, decide_true, decide_false, Int.reduceAdd, Int.reduceSub, beq_self_eq_true, Bool.false_eq_true, if_false, if_true, b29, m4, hrk]
          exact r_of (by omega) (by omega)
        obtain ⟨e', k1, k2⟩ := for_inv (tg := [4]) (b := B_law_kind_by_0 i i_name i_next) it1 (fun i e => ∃ (s' : Int) (ks : List (Str × D)) (c : Cel), e = [.val (.int s'), .val (.int ((m + 1 : Nat) : Int)), .val (.int pk), .own (.dct ks), c] ∧ ks.length ≤ i ∧ Keys ks ∧ bkD ks ≤ i * (14 + kbk m) ∧ (0 < i → ks ≠ []) ∧ (∀ p, p ∈ ks → NmOk p.1) ∧ ∀ p, p ∈ ks → Kd m p.2)
          ⟨nx s, [], .no, rfl, Nat.le_refl _, keys_nil, Nat.zero_le _, (fun h => absurd h (Nat.lt_irrefl _)), (fun p h => by cases h), (fun p h => by cases h)⟩ (fun j d e1 hd ⟨s', ks, c, e0, hll, hk, hl, hne, hx, hy⟩ => by
            obtain ⟨ed, hi⟩ := get_range hd
            subst ed e0
            obtain ⟨d1, f1, g1, g2⟩ := kind_ok hf hn hm m (k' + 2) (nx (s' + j)) (by omega)
            obtain ⟨t, f2, g3⟩ := hm k' ((nx (s' + j)).fdiv 3)
            have pl := (put_len (ks := ks) (k := t) (v := d1)).2.2
            refine ⟨_, _, set_one, ?_, nx (s' + j), put ks t d1, .val (.int j), rfl, Nat.le_trans put_len.1 (by omega), put_keys hk, ?_, (fun _ h => by rw [h] at pl; exact absurd pl (Nat.lt_irrefl _)), fun p hp => ?_, fun p hp => ?_⟩
            · have hlt : ks.length < lim := by
                have h0 : lim = 16777216 := rfl
                omega
              unfold B_law_kind_by_0
              rw [q_cons]
              have e2 : evS (callN T (k' + 2)) T.sub ([.val (.int s'), .val (.int ((m + 1 : Nat) : Int)), .val (.int pk), .own (.dct ks), c].set 4 (.val (.int j))) (.asg 0 (.call i_next (.cons (.bin .add (.var 0) (.var 4)) .nil))) = .nx [.val (.int (nx (s' + j))), .val (.int ((m + 1 : Nat) : Int)), .val (.int pk), .own (.dct ks), .val (.int j)] := by
                simp only [x_str, x_int, x_var, x_bin, x_cmp, x_bl, x_sub, x_slc, x_call, x_tup, x_lst, x_dct, x_and, x_or, x_not, x_isi, x_bfn, xs_nil, xs_cons, bind_ok, d_val, d_own, d_bor, c_eqi, c_eqs, c_lt, c_le, c_gt, c_ge, bl_val, cell_val, cell_own, cell_lent, cell_bor, vas_nil, vas_cons, va_val, va_own, b_add, b_sub, and_nil, or_nil, q_and, q_or, q_at, q_af, q_ot, q_of, c_ind, c_nind, pu_nil, mg_nil, q_an, q_on, c_nes, c_neb, c_eqb, Bool.not_true, Bool.not_false, q_cons, q_nx, q_ret, q_if, q_tt, q_ff, ss_nil, ss_frz, s_asg, s_ret, out_ok, give_val, give_own, fin_ret, fin_nx, ret_val, ret_own, frz_own, frz_val, frz_bor, List.getD_cons_zero, List.getD_cons_succ, startE, List.map_cons, List.map_nil, List.length_cons, List.length_nil, List.replicate, List.cons_append, List.nil_append, List.getElem?_cons_zero, List.getElem?_cons_succ, List.set_cons_zero, List.set_cons_succ, Nat.reduceSub, Nat.reduceAdd, decide_true, decide_false, Int.reduceAdd, Int.reduceSub, beq_self_eq_true, Bool.false_eq_true, if_false, if_true, nk]
              rw [e2, q_nx, q_cons, s_setO (d := .dct ks) rfl]
              simp only [x_str, x_int, x_var, x_bin, x_cmp, x_bl, x_sub, x_slc, x_call, x_tup, x_lst, x_dct, x_and, x_or, x_not, x_isi, x_bfn, xs_nil, xs_cons, bind_ok, d_val, d_own, d_bor, c_eqi, c_eqs, c_lt, c_le, c_gt, c_ge, bl_val, cell_val, cell_own, cell_lent, cell_bor, vas_nil, vas_cons, va_val, va_own, b_add, b_sub, and_nil, or_nil, q_and, q_or, q_at, q_af, q_ot, q_of, c_ind, c_nind, pu_nil, mg_nil, q_an, q_on, c_nes, c_neb, c_eqb, Bool.not_true, Bool.not_false, q_cons, q_nx, q_ret, q_if, q_tt, q_ff, ss_nil, ss_frz, s_asg, s_ret, out_ok, give_val, give_own, fin_ret, fin_nx, ret_val, ret_own, frz_own, frz_val, frz_bor, List.getD_cons_zero, List.getD_cons_succ, startE, List.map_cons, List.map_nil, List.length_cons, List.length_nil, List.replicate, List.cons_append, List.nil_append, List.getElem?_cons_zero, List.getElem?_cons_succ, List.set_cons_zero, List.set_cons_succ, Nat.reduceSub, Nat.reduceAdd, decide_true, decide_false, Int.reduceAdd, Int.reduceSub, beq_self_eq_true, Bool.false_eq_true, if_false, if_true, b3, em, f1, f2]
              rw [setO_dct rfl hlt]
              rfl
            · have q := bkD_put (k := t) (v := d1) hk
              have q2 := g3.len
              rw [Nat.succ_mul]
              omega
            · rcases mem_put hp with e | hp
              · rw [e]; exact g3
              · exact hx p hp
            · rcases mem_put hp with e | hp
              · rw [e]; exact g1
              · exact hy p hp)
        obtain ⟨s', ks, c, e0, hll, hk, hl, hne, hx, hy⟩ := k2
        subst e0
        rw [List.length_map, List.length_range] at hl hne
        rw [k1, q_nx]
        have hb : bkD ks ≤ 4 * (14 + kbk m) := Nat.le_trans hl (Nat.mul_le_mul (by omega) (Nat.le_refl _))
        have two : pk = 2 ∨ pk = 3 := by omega
        rcases two with e2 | e2
        · refine ⟨.tup [.str "record", .dct ks], ?_, .tup (.inl rfl) hk hx hy, ?_⟩
          · subst e2
            have e3 : subop (.lst [.str "record", .str "choice"]) (.int (2 - 2)) = .ok (.val (.str "record")) := rfl
            show (evSs _ _ [.val (.int s'), .val (.int ((m + 1 : Nat) : Int)), .val (.int 2), .own (.dct ks), c] _).fin = _
            unfold R_law_kind_by_0
            rw [ss_frz]
            simp only [x_str, x_int, x_var, x_bin, x_cmp, x_bl, x_sub, x_slc, x_call, x_tup, x_lst, x_dct, x_and, x_or, x_not, x_isi, x_bfn, xs_nil, xs_cons, bind_ok, d_val, d_own, d_bor, c_eqi, c_eqs, c_lt, c_le, c_gt, c_ge, bl_val, cell_val, cell_own, cell_lent, cell_bor, vas_nil, vas_cons, va_val, va_own, b_add, b_sub, and_nil, or_nil, q_and, q_or, q_at, q_af, q_ot, q_of, c_ind, c_nind, pu_nil, mg_nil, q_an, q_on, c_nes, c_neb, c_eqb, Bool.not_true, Bool.not_false, q_cons, q_nx, q_ret, q_if, q_tt, q_ff, ss_nil, ss_frz, s_asg, s_ret, out_ok, give_val, give_own, fin_ret, fin_nx, ret_val, ret_own, frz_own, frz_val, frz_bor, List.getD_cons_zero, List.getD_cons_succ, startE, List.map_cons, List.map_nil, List.length_cons, List.length_nil, List.replicate, List.cons_append, List.nil_append, List.getElem?_cons_zero, List.getElem?_cons_succ, List.set_cons_zero, List.set_cons_succ, Nat.reduceSub, Nat.reduceAdd, decide_true, decide_false, Int.reduceAdd, Int.reduceSub, beq_self_eq_true, Bool.false_eq_true, if_false, if_true, e3]
            rfl
          · rw [bk_pair]
            show 6 + bkD ks + 2 ≤ 8 + 4 * (14 + kbk m)
            omega
        · refine ⟨.tup [.str "choice", .dct ks], ?_, .tup (.inr ⟨rfl, hne (by omega)⟩) hk hx hy, ?_⟩
          · subst e2
            have e3 : subop (.lst [.str "record", .str "choice"]) (.int (3 - 2)) = .ok (.val (.str "choice")) := rfl
            show (evSs _ _ [.val (.int s'), .val (.int ((m + 1 : Nat) : Int)), .val (.int 3), .own (.dct ks), c] _).fin = _
            unfold R_law_kind_by_0
            rw [ss_frz]
            simp only [x_str, x_int, x_var, x_bin, x_cmp, x_bl, x_sub, x_slc, x_call, x_tup, x_lst, x_dct, x_and, x_or, x_not, x_isi, x_bfn, xs_nil, xs_cons, bind_ok, d_val, d_own, d_bor, c_eqi, c_eqs, c_lt, c_le, c_gt, c_ge, bl_val, cell_val, cell_own, cell_lent, cell_bor, vas_nil, vas_cons, va_val, va_own, b_add, b_sub, and_nil, or_nil, q_and, q_or, q_at, q_af, q_ot, q_of, c_ind, c_nind, pu_nil, mg_nil, q_an, q_on, c_nes, c_neb, c_eqb, Bool.not_true, Bool.not_false, q_cons, q_nx, q_ret, q_if, q_tt, q_ff, ss_nil, ss_frz, s_asg, s_ret, out_ok, give_val, give_own, fin_ret, fin_nx, ret_val, ret_own, frz_own, frz_val, frz_bor, List.getD_cons_zero, List.getD_cons_succ, startE, List.map_cons, List.map_nil, List.length_cons, List.length_nil, List.replicate, List.cons_append, List.nil_append, List.getElem?_cons_zero, List.getElem?_cons_succ, List.set_cons_zero, List.set_cons_succ, Nat.reduceSub, Nat.reduceAdd, decide_true, decide_false, Int.reduceAdd, Int.reduceSub, beq_self_eq_true, Bool.false_eq_true, if_false, if_true, e3]
            rfl
          · rw [bk_pair]
            show 6 + bkD ks + 2 ≤ 8 + 4 * (14 + kbk m)
            omega
end
end Ev
set_option Elab.async false
set_option linter.all false
set_option maxRecDepth 100000
set_option maxHeartbeats 4000000
set_option autoImplicit false
/-! is_of and fits: what each gives. -/
namespace Ev
open PySem L2
theorem IsOf.num_iff {v : D} : IsOf v (.str "num") ↔ ∃ i, v = .int i := by
  constructor
  · intro h
    generalize e : D.str "num" = k at h
    cases h with
    | num i => exact ⟨i, rfl⟩
    | tru b => exact absurd (D.str.inj e) num_ne
    | rcd => cases e
    | cho => cases e
  · rintro ⟨i, e⟩
    rw [e]
    exact .num i
theorem IsOf.tru_iff {v : D} : IsOf v (.str "truth") ↔ ∃ b, v = .bl b := by
  constructor
  · intro h
    generalize e : D.str "truth" = k at h
    cases h with
    | num i => exact absurd (D.str.inj e).symm num_ne
    | tru b => exact ⟨b, rfl⟩
    | rcd => cases e
    | cho => cases e
  · rintro ⟨i, e⟩
    rw [e]
    exact .tru i
/-- at one field -/
def IsAt (vs ks : List (Str × D)) (n : Str) : Prop := ∃ v k, look vs n = some v ∧ look ks n = some k ∧ IsOf v k
theorem IsOf.rcd_iff {v : D} {ks : List (Str × D)} : IsOf v (.tup [.str "record", .dct ks]) ↔ ∃ vs, v = .dct vs ∧ ∀ p, p ∈ ks → IsAt vs ks p.1 := by
  constructor
  · intro h
    generalize e : D.tup [.str "record", .dct ks] = k at h
    cases h with
    | num i => cases e
    | tru b => cases e
    | @rcd vs ks' h a =>
      cases e
      refine ⟨vs, rfl, fun p hp => ?_⟩
      obtain ⟨k, hk⟩ := key_look hp
      have z := h _ _ hk
      cases q : look vs p.1 with
      | none => rw [q] at z; cases z
      | some w => exact ⟨w, k, q, hk, a _ _ _ hk q⟩
    | cho h a =>
      have z := D.tup.inj e
      injection z with z _
      exact absurd (D.str.inj z) rec_ne
  · rintro ⟨vs, e, h⟩
    rw [e]
    refine .rcd (fun n k hk => ?_) (fun n k w hk hw => ?_)
    · obtain ⟨v, _, h1, _⟩ := h _ (lookQ_mem hk)
      rw [h1]; rfl
    · obtain ⟨v, k', h1, h2, h3⟩ := h _ (lookQ_mem hk)
      have h1 : look vs n = some v := h1
      have h2 : look ks n = some k' := h2
      rw [h1] at hw
      rw [h2] at hk
      cases hw
      cases hk
      exact h3
theorem IsOf.cho_iff {v : D} {ks : List (Str × D)} : IsOf v (.tup [.str "choice", .dct ks]) ↔ ∃ n w k, v = .tup [.str n, w] ∧ look ks n = some k ∧ IsOf w k := by
  constructor
  · intro h
    generalize e : D.tup [.str "choice", .dct ks] = k at h
    cases h with
    | num i => cases e
    | tru b => cases e
    | rcd h a =>
      have z := D.tup.inj e
      injection z with z _
      exact absurd (D.str.inj z).symm rec_ne
    | @cho n v k ks' h a =>
      cases e
      exact ⟨n, v, k, rfl, h, a⟩
  · rintro ⟨n, w, k, e, h, a⟩
    rw [e]
    exact .cho h a
def FitAt (as bs : List (Str × D)) (n : Str) : Prop := ∃ x y, look as n = some x ∧ look bs n = some y ∧ Fit x y
theorem Fit.rcd_iff {as bs : List (Str × D)} : Fit (.tup [.str "record", .dct as]) (.tup [.str "record", .dct bs]) ↔ ∀ p, p ∈ bs → FitAt as bs p.1 := by
  constructor
  · intro h
    generalize e1 : D.tup [.str "record", .dct as] = a at h
    generalize e2 : D.tup [.str "record", .dct bs] = b at h
    cases h with
    | str => cases e1
    | rcd h a =>
      cases e1
      cases e2
      intro p hp
      obtain ⟨y, hy⟩ := key_look hp
      have z := h _ _ hy
      cases q : look as p.1 with
      | none => rw [q] at z; cases z
      | some x => exact ⟨x, y, q, hy, a _ _ _ q hy⟩
    | cho h a =>
      have z := D.tup.inj e1
      injection z with z _
      exact absurd (D.str.inj z) rec_ne
  · intro h
    refine .rcd (fun n y hy => ?_) (fun n x y hx hy => ?_)
    · obtain ⟨x, _, h1, _⟩ := h _ (lookQ_mem hy)
      have h1 : look as n = some x := h1
      rw [h1]; rfl
    · obtain ⟨x', y', h1, h2, h3⟩ := h _ (lookQ_mem hy)
      have h1 : look as n = some x' := h1
      have h2 : look bs n = some y' := h2
      rw [h1] at hx
      rw [h2] at hy
      cases hx
      cases hy
      exact h3
theorem Fit.cho_iff {as bs : List (Str × D)} : Fit (.tup [.str "choice", .dct as]) (.tup [.str "choice", .dct bs]) ↔ ∀ p, p ∈ as → FitAt as bs p.1 := by
  constructor
  · intro h
    generalize e1 : D.tup [.str "choice", .dct as] = a at h
    generalize e2 : D.tup [.str "choice", .dct bs] = b at h
    cases h with
    | str => cases e1
    | cho h a =>
      cases e1
      cases e2
      intro p hp
      obtain ⟨y, hy⟩ := key_look hp
      have z := h _ _ hy
      cases q : look bs p.1 with
      | none => rw [q] at z; cases z
      | some x => exact ⟨y, x, hy, q, a _ _ _ hy q⟩
    | rcd h a =>
      have z := D.tup.inj e1
      injection z with z _
      exact absurd (D.str.inj z).symm rec_ne
  · intro h
    refine .cho (fun n y hy => ?_) (fun n x y hx hy => ?_)
    · obtain ⟨_, x, _, h1, _⟩ := h _ (lookQ_mem hy)
      have h1 : look bs n = some x := h1
      rw [h1]; rfl
    · obtain ⟨x', y', h1, h2, h3⟩ := h _ (lookQ_mem hx)
      have h1 : look as n = some x' := h1
      have h2 : look bs n = some y' := h2
      rw [h1] at hx
      rw [h2] at hy
      cases hx
      cases hy
      exact h3
theorem Fit.make {na nb : Str} {as bs : List (Str × D)} (h : Fit (.tup [.str na, .dct as]) (.tup [.str nb, .dct bs])) : na = nb := by
  cases h with
  | rcd => rfl
  | cho => rfl
theorem Fit.str_l {s : Str} {b : D} (h : Fit (.str s) b) : b = .str s := by
  cases h with
  | str => rfl
theorem Fit.str_r {s : Str} {b : D} (h : Fit b (.str s)) : b = .str s := by
  cases h with
  | str => rfl
theorem eqv_str {x : Str} {b : D} : D.eqv (.str x) b = tf (Fit (.str x) b) := by
  cases b with
  | str y =>
    have z : D.eqv (.str x) (.str y) = decide (x = y) := by simp only [D.eqv]
    rw [z, tf_dec]
    refine tf_eq ⟨fun e => by rw [e]; exact .str _, fun h => (D.str.inj (Fit.str_l h)).symm⟩
  | _ =>
    have z : ∀ d : D, (∀ y, d ≠ .str y) → tf (Fit (.str x) d) = false := fun d h => tf_f fun q => h _ (Fit.str_l q)
    rw [z _ (fun y e => by cases e)]
    unfold D.eqv
    rfl
theorem eqv_tupstr {y : Str} {xs : List D} : D.eqv (.tup xs) (.str y) = tf (Fit (.tup xs) (.str y)) := by
  have z : tf (Fit (.tup xs) (.str y)) = false := tf_f fun q => by cases Fit.str_r q
  rw [z]
  unfold D.eqv
  rfl
theorem isTy_str {d : D} : ([Ty.str].any d.isTy) = true ↔ ∃ x, d = .str x := by
  cases d <;> simp [D.isTy]
theorem kd_ty {m : Nat} {d : D} (h : Kd m d) : (∃ x, d = .str x ∧ ([Ty.str].any d.isTy) = true ∧ (d = .str "num" ∨ d = .str "truth")) ∨ ∃ m' nm ks, m = m' + 1 ∧ d = .tup [.str nm, .dct ks] ∧ ([Ty.str].any d.isTy) = false ∧ (nm = "record" ∨ nm = "choice" ∧ ks ≠ []) ∧ Keys ks ∧ (∀ p, p ∈ ks → NmOk p.1) ∧ ∀ p, p ∈ ks → Kd m' p.2 := by
  rcases h.cas with h | ⟨m', nm, ks, e, e2, h1, h2, h3, h4⟩
  · rcases h with e | e
    · exact .inl ⟨_, e, by rw [e]; rfl, .inl e⟩
    · exact .inl ⟨_, e, by rw [e]; rfl, .inr e⟩
  · exact .inr ⟨m', nm, ks, e, e2, by rw [e2]; rfl, h1, h2, h3, h4⟩
theorem lit_rr : decide (("record" : Str) = "record") = true := by decide +kernel
theorem lit_cr : decide (("choice" : Str) = "record") = false := by decide +kernel
theorem lit_rc : decide (("record" : Str) = "choice") = false := by decide +kernel
theorem lit_cc : decide (("choice" : Str) = "choice") = true := by decide +kernel
theorem lit_nn : decide (("num" : Str) = "num") = true := by decide +kernel
theorem lit_nt : decide (("num" : Str) = "truth") = false := by decide +kernel
theorem lit_tn : decide (("truth" : Str) = "num") = false := by decide +kernel
theorem lit_tt : decide (("truth" : Str) = "truth") = true := by decide +kernel
theorem eq_ts {xs : List D} {y : Str} : cmpop .eq (.tup xs) (.str y) = .ok (.val (.bl false)) := c_eqd (eq_flat rfl)
theorem eq_st {xs : List D} {y : Str} : cmpop .eq (.str y) (.tup xs) = .ok (.val (.bl false)) := c_eqd (by unfold eqOk; exact decide_eq_true (by rw [show (D.str y).dep = 0 from rfl, Nat.zero_min]; decide))
/-- a value that is there, lent or not -/
def Held (rv : RV) (v : D) : Prop := ∃ c : Cel, cellR (some c) = .ok rv ∧ rv.d = v ∧ (match rv with
  | .val d => Cel.val d
  | .own d => Cel.val d
  | .bor d => Cel.bor d) = c
theorem held_val (v : D) : Held (.val v) v := ⟨.val v, rfl, rfl, rfl⟩
theorem held_bor (v : D) : Held (.bor v) v := ⟨.bor v, rfl, rfl, rfl⟩
section
variable {T : Tab}
theorem is_of_ok {i : Nat} (hf : T.fns[i]? = some (F_is_of i)) : ∀ (m j k : Nat) (d v : D) (rv : RV), Kd m d → Vd j v → bk d ≤ lim → Held rv v → m + 1 ≤ k → callN T k i [rv, .val d] = .ok (.val (.bl (tf (IsOf v d))))
  | m, j, 0, d, v, rv, hd, hv, hb, hr, h => by omega
  | m, j, k + 1, d, v, rv, hd, hv, hb, ⟨c, hc, rd, ec⟩, h => by
    rw [call_fin T k i _ _ hf rfl]
    have e0 : startE (F_is_of i).N.length [rv, .val d] = [c, .val d, .no] := by
      rw [← ec]
      rfl
    rw [e0]
    rcases hd.cas with hd | ⟨m', nm, ks, em, ed, hn, hk, hnm, ha⟩
    · rcases hd with e | e
      · subst e
        have e2 : tf (IsOf v (.str "num")) = (v.isTy .int && !v.isTy .bool) := by
          rw [tf_eq IsOf.num_iff]
          cases v <;> first
            | exact tf_t ⟨_, rfl⟩
            | exact tf_f (fun ⟨_, z⟩ => by cases z)
        rw [e2]
        cases h1 : v.isTy .int <;> cases h2 : v.isTy .bool <;> simp only [F_is_of, x_str, x_int, x_var, x_bin, x_cmp, x_bl, x_sub, x_slc, x_call, x_tup, x_lst, x_dct, x_and, x_or, x_not, x_isi, x_bfn, xs_nil, xs_cons, bind_ok, d_val, d_own, d_bor, c_eqi, c_eqs, c_lt, c_le, c_gt, c_ge, bl_val, cell_val, cell_own, cell_lent, cell_bor, vas_nil, vas_cons, va_val, va_own, b_add, b_sub, and_nil, or_nil, q_and, q_or, q_at, q_af, q_ot, q_of, c_ind, c_nind, pu_nil, mg_nil, q_an, q_on, c_nes, c_neb, c_eqb, Bool.not_true, Bool.not_false, q_cons, q_nx, q_ret, q_if, q_tt, q_ff, ss_nil, ss_frz, s_asg, s_ret, out_ok, give_val, give_own, fin_ret, fin_nx, ret_val, ret_own, frz_own, frz_val, frz_bor, List.getD_cons_zero, List.getD_cons_succ, startE, List.map_cons, List.map_nil, List.length_cons, List.length_nil, List.replicate, List.cons_append, List.nil_append, List.getElem?_cons_zero, List.getElem?_cons_succ, List.set_cons_zero, List.set_cons_succ, Nat.reduceSub, Nat.reduceAdd, decide_true, decide_false, Int.reduceAdd, Int.reduceSub, beq_self_eq_true, Bool.false_eq_true, if_false, if_true, hc, rd, lit_nn, List.any_cons, List.any_nil, Bool.or_false, h1, h2, Bool.and_true, Bool.and_false]
      · subst e
        have e2 : tf (IsOf v (.str "truth")) = v.isTy .bool := by
          rw [tf_eq IsOf.tru_iff]
          cases v <;> first
            | exact tf_t ⟨_, rfl⟩
            | exact tf_f (fun ⟨_, z⟩ => by cases z)
        rw [e2]
        simp only [F_is_of, x_str, x_int, x_var, x_bin, x_cmp, x_bl, x_sub, x_slc, x_call, x_tup, x_lst, x_dct, x_and, x_or, x_not, x_isi, x_bfn, xs_nil, xs_cons, bind_ok, d_val, d_own, d_bor, c_eqi, c_eqs, c_lt, c_le, c_gt, c_ge, bl_val, cell_val, cell_own, cell_lent, cell_bor, vas_nil, vas_cons, va_val, va_own, b_add, b_sub, and_nil, or_nil, q_and, q_or, q_at, q_af, q_ot, q_of, c_ind, c_nind, pu_nil, mg_nil, q_an, q_on, c_nes, c_neb, c_eqb, Bool.not_true, Bool.not_false, q_cons, q_nx, q_ret, q_if, q_tt, q_ff, ss_nil, ss_frz, s_asg, s_ret, out_ok, give_val, give_own, fin_ret, fin_nx, ret_val, ret_own, frz_own, frz_val, frz_bor, List.getD_cons_zero, List.getD_cons_succ, startE, List.map_cons, List.map_nil, List.length_cons, List.length_nil, List.replicate, List.cons_append, List.nil_append, List.getElem?_cons_zero, List.getElem?_cons_succ, List.set_cons_zero, List.set_cons_succ, Nat.reduceSub, Nat.reduceAdd, decide_true, decide_false, Int.reduceAdd, Int.reduceSub, beq_self_eq_true, Bool.false_eq_true, if_false, if_true, hc, rd, lit_tn, lit_tt, List.any_cons, List.any_nil, Bool.or_false]
    · subst ed em
      rw [bk_pair] at hb
      have hlen : ks.length ≤ lim := by have := bkD_len ks; omega
      rcases hn with hn | ⟨hn, hne⟩
      · subst hn
        rw [tf_eq IsOf.rcd_iff]
        by_cases dv : ∃ vs, v = .dct vs
        · obtain ⟨vs, ev⟩ := dv
          subst ev
          have e2 : tf (∃ vs', D.dct vs = .dct vs' ∧ ∀ p, p ∈ ks → IsAt vs' ks p.1) = tf (∀ p, p ∈ ks → IsAt vs ks p.1) := tf_eq ⟨fun ⟨_, e, h⟩ => by cases e; exact h, fun h => ⟨vs, rfl, h⟩⟩
          rw [e2]
          have hvs : ∃ j', ∀ p, p ∈ vs → Vd j' p.2 := by
            cases hv with
            | dct k n a => exact ⟨_, a⟩
          obtain ⟨j', hvs⟩ := hvs
          have it1 : evIt (callN T k) T.sub [c, .val (.tup [.str "record", .dct ks]), .no] (.ex (.sub (.var 1) (.cint 1))) = .ok (ks.map fun kv => .str kv.1) := by
            rw [i_ex]
            simp only [x_str, x_int, x_var, x_bin, x_cmp, x_bl, x_sub, x_slc, x_call, x_tup, x_lst, x_dct, x_and, x_or, x_not, x_isi, x_bfn, xs_nil, xs_cons, bind_ok, d_val, d_own, d_bor, c_eqi, c_eqs, c_lt, c_le, c_gt, c_ge, bl_val, cell_val, cell_own, cell_lent, cell_bor, vas_nil, vas_cons, va_val, va_own, b_add, b_sub, and_nil, or_nil, q_and, q_or, q_at, q_af, q_ot, q_of, c_ind, c_nind, pu_nil, mg_nil, q_an, q_on, c_nes, c_neb, c_eqb, Bool.not_true, Bool.not_false, q_cons, q_nx, q_ret, q_if, q_tt, q_ff, ss_nil, ss_frz, s_asg, s_ret, out_ok, give_val, give_own, fin_ret, fin_nx, ret_val, ret_own, frz_own, frz_val, frz_bor, List.getD_cons_zero, List.getD_cons_succ, startE, List.map_cons, List.map_nil, List.length_cons, List.length_nil, List.replicate, List.cons_append, List.nil_append, List.getElem?_cons_zero, List.getElem?_cons_succ, List.set_cons_zero, List.set_cons_succ, Nat.reduceSub, Nat.reduceAdd, decide_true, decide_false, Int.reduceAdd, Int.reduceSub, beq_self_eq_true, Bool.false_eq_true, if_false, if_true, sub_pair1]
            exact items_dct (r := .val (.dct ks)) rfl hlen
          have ti : ([Ty.dict].any (D.dct vs).isTy) = true := rfl
          obtain ⟨L, all, all2⟩ := all_names (call := callN T k) (sub := T.sub) (e := [c, .val (.tup [.str "record", .dct ks]), .no]) (t := 2) (P := IsAt vs ks) (elt := .and (.cons (.cmp .inn (.var 2) (.var 0)) (.cons (.call i (.cons (.sub (.var 0) (.var 2)) (.cons (.sub (.sub (.var 1) (.cint 1)) (.var 2)) .nil))) .nil))) it1 hlen fun p hp => by
            have hs : List.set (wipeS [2] [c, .val (.tup [.str "record", .dct ks]), .no]) 2 (.val (.str p.1)) = [c, .val (.tup [.str "record", .dct ks]), .val (.str p.1)] := rfl
            rw [hs]
            obtain ⟨dk, e4⟩ := key_look hp
            have hki := ha _ (lookQ_mem e4)
            have hbk := bkD_look e4
            cases hv2 : look vs p.1 with
            | none =>
              have h0 : has vs p.1 = false := by rw [has_look, hv2]; rfl
              rw [tf_f (fun ⟨_, _, z, _⟩ => by rw [hv2] at z; cases z)]
              simp only [x_str, x_int, x_var, x_bin, x_cmp, x_bl, x_sub, x_slc, x_call, x_tup, x_lst, x_dct, x_and, x_or, x_not, x_isi, x_bfn, xs_nil, xs_cons, bind_ok, d_val, d_own, d_bor, c_eqi, c_eqs, c_lt, c_le, c_gt, c_ge, bl_val, cell_val, cell_own, cell_lent, cell_bor, vas_nil, vas_cons, va_val, va_own, b_add, b_sub, and_nil, or_nil, q_and, q_or, q_at, q_af, q_ot, q_of, c_ind, c_nind, pu_nil, mg_nil, q_an, q_on, c_nes, c_neb, c_eqb, Bool.not_true, Bool.not_false, q_cons, q_nx, q_ret, q_if, q_tt, q_ff, ss_nil, ss_frz, s_asg, s_ret, out_ok, give_val, give_own, fin_ret, fin_nx, ret_val, ret_own, frz_own, frz_val, frz_bor, List.getD_cons_zero, List.getD_cons_succ, startE, List.map_cons, List.map_nil, List.length_cons, List.length_nil, List.replicate, List.cons_append, List.nil_append, List.getElem?_cons_zero, List.getElem?_cons_succ, List.set_cons_zero, List.set_cons_succ, Nat.reduceSub, Nat.reduceAdd, decide_true, decide_false, Int.reduceAdd, Int.reduceSub, beq_self_eq_true, Bool.false_eq_true, if_false, if_true, hc, rd, h0]
            | some w =>
              have h0 : has vs p.1 = true := by rw [has_look, hv2]; rfl
              have ih := is_of_ok hf m' j' k dk w (.val w) hki (hvs _ (lookQ_mem hv2)) (by omega) (held_val w) (by omega)
              have e5 : tf (IsAt vs ks p.1) = tf (IsOf w dk) := tf_eq ⟨fun ⟨w', k', z1, z2, z3⟩ => by rw [hv2] at z1; rw [e4] at z2; cases z1; cases z2; exact z3, fun z => ⟨w, dk, hv2, e4, z⟩⟩
              rw [e5]
              simp only [x_str, x_int, x_var, x_bin, x_cmp, x_bl, x_sub, x_slc, x_call, x_tup, x_lst, x_dct, x_and, x_or, x_not, x_isi, x_bfn, xs_nil, xs_cons, bind_ok, d_val, d_own, d_bor, c_eqi, c_eqs, c_lt, c_le, c_gt, c_ge, bl_val, cell_val, cell_own, cell_lent, cell_bor, vas_nil, vas_cons, va_val, va_own, b_add, b_sub, and_nil, or_nil, q_and, q_or, q_at, q_af, q_ot, q_of, c_ind, c_nind, pu_nil, mg_nil, q_an, q_on, c_nes, c_neb, c_eqb, Bool.not_true, Bool.not_false, q_cons, q_nx, q_ret, q_if, q_tt, q_ff, ss_nil, ss_frz, s_asg, s_ret, out_ok, give_val, give_own, fin_ret, fin_nx, ret_val, ret_own, frz_own, frz_val, frz_bor, List.getD_cons_zero, List.getD_cons_succ, startE, List.map_cons, List.map_nil, List.length_cons, List.length_nil, List.replicate, List.cons_append, List.nil_append, List.getElem?_cons_zero, List.getElem?_cons_succ, List.set_cons_zero, List.set_cons_succ, Nat.reduceSub, Nat.reduceAdd, decide_true, decide_false, Int.reduceAdd, Int.reduceSub, beq_self_eq_true, Bool.false_eq_true, if_false, if_true, hc, rd, h0, sub_pair1, sub_dct hv2, sub_dct e4, ih]
          simp only [F_is_of, x_str, x_int, x_var, x_bin, x_cmp, x_bl, x_sub, x_slc, x_call, x_tup, x_lst, x_dct, x_and, x_or, x_not, x_isi, x_bfn, xs_nil, xs_cons, bind_ok, d_val, d_own, d_bor, c_eqi, c_eqs, c_lt, c_le, c_gt, c_ge, bl_val, cell_val, cell_own, cell_lent, cell_bor, vas_nil, vas_cons, va_val, va_own, b_add, b_sub, and_nil, or_nil, q_and, q_or, q_at, q_af, q_ot, q_of, c_ind, c_nind, pu_nil, mg_nil, q_an, q_on, c_nes, c_neb, c_eqb, Bool.not_true, Bool.not_false, q_cons, q_nx, q_ret, q_if, q_tt, q_ff, ss_nil, ss_frz, s_asg, s_ret, out_ok, give_val, give_own, fin_ret, fin_nx, ret_val, ret_own, frz_own, frz_val, frz_bor, List.getD_cons_zero, List.getD_cons_succ, startE, List.map_cons, List.map_nil, List.length_cons, List.length_nil, List.replicate, List.cons_append, List.nil_append, List.getElem?_cons_zero, List.getElem?_cons_succ, List.set_cons_zero, List.set_cons_succ, Nat.reduceSub, Nat.reduceAdd, decide_true, decide_false, Int.reduceAdd, Int.reduceSub, beq_self_eq_true, Bool.false_eq_true, if_false, if_true, hc, rd, eq_ts, sub_pair0, lit_rr, ti, all, all2]
        · have e2 : tf (∃ vs', v = .dct vs' ∧ ∀ p, p ∈ ks → IsAt vs' ks p.1) = false := tf_f fun ⟨vs', e, _⟩ => dv ⟨vs', e⟩
          have ti : ([Ty.dict].any v.isTy) = false := by
            cases v <;> first
              | rfl
              | exact absurd ⟨_, rfl⟩ dv
          rw [e2]
          simp only [F_is_of, x_str, x_int, x_var, x_bin, x_cmp, x_bl, x_sub, x_slc, x_call, x_tup, x_lst, x_dct, x_and, x_or, x_not, x_isi, x_bfn, xs_nil, xs_cons, bind_ok, d_val, d_own, d_bor, c_eqi, c_eqs, c_lt, c_le, c_gt, c_ge, bl_val, cell_val, cell_own, cell_lent, cell_bor, vas_nil, vas_cons, va_val, va_own, b_add, b_sub, and_nil, or_nil, q_and, q_or, q_at, q_af, q_ot, q_of, c_ind, c_nind, pu_nil, mg_nil, q_an, q_on, c_nes, c_neb, c_eqb, Bool.not_true, Bool.not_false, q_cons, q_nx, q_ret, q_if, q_tt, q_ff, ss_nil, ss_frz, s_asg, s_ret, out_ok, give_val, give_own, fin_ret, fin_nx, ret_val, ret_own, frz_own, frz_val, frz_bor, List.getD_cons_zero, List.getD_cons_succ, startE, List.map_cons, List.map_nil, List.length_cons, List.length_nil, List.replicate, List.cons_append, List.nil_append, List.getElem?_cons_zero, List.getElem?_cons_succ, List.set_cons_zero, List.set_cons_succ, Nat.reduceSub, Nat.reduceAdd, decide_true, decide_false, Int.reduceAdd, Int.reduceSub, beq_self_eq_true, Bool.false_eq_true, if_false, if_true, hc, rd, eq_ts, sub_pair0, lit_rr, ti]
      · subst hn
        rw [tf_eq IsOf.cho_iff]
        by_cases dv : ∃ xs, v = .tup xs
        · obtain ⟨xs, ev⟩ := dv
          subst ev
          obtain ⟨j', nm, w, ex, hw⟩ : ∃ j' nm w, xs = [.str nm, w] ∧ Vd j' w := by
            cases hv with
            | tup n a => exact ⟨_, _, _, rfl, a⟩
          subst ex
          have ti : ([Ty.tuple].any (D.tup [.str nm, w]).isTy) = true := rfl
          cases hl2 : look ks nm with
          | none =>
            have h0 : has ks nm = false := by rw [has_look, hl2]; rfl
            rw [tf_f (fun ⟨_, _, _, e, z, _⟩ => by cases e; rw [hl2] at z; cases z)]
            simp only [F_is_of, x_str, x_int, x_var, x_bin, x_cmp, x_bl, x_sub, x_slc, x_call, x_tup, x_lst, x_dct, x_and, x_or, x_not, x_isi, x_bfn, xs_nil, xs_cons, bind_ok, d_val, d_own, d_bor, c_eqi, c_eqs, c_lt, c_le, c_gt, c_ge, bl_val, cell_val, cell_own, cell_lent, cell_bor, vas_nil, vas_cons, va_val, va_own, b_add, b_sub, and_nil, or_nil, q_and, q_or, q_at, q_af, q_ot, q_of, c_ind, c_nind, pu_nil, mg_nil, q_an, q_on, c_nes, c_neb, c_eqb, Bool.not_true, Bool.not_false, q_cons, q_nx, q_ret, q_if, q_tt, q_ff, ss_nil, ss_frz, s_asg, s_ret, out_ok, give_val, give_own, fin_ret, fin_nx, ret_val, ret_own, frz_own, frz_val, frz_bor, List.getD_cons_zero, List.getD_cons_succ, startE, List.map_cons, List.map_nil, List.length_cons, List.length_nil, List.replicate, List.cons_append, List.nil_append, List.getElem?_cons_zero, List.getElem?_cons_succ, List.set_cons_zero, List.set_cons_succ, Nat.reduceSub, Nat.reduceAdd, decide_true, decide_false, Int.reduceAdd, Int.reduceSub, beq_self_eq_true, Bool.false_eq_true, if_false, if_true, hc, rd, eq_ts, sub_pair0, sub_pair1, lit_cr, ti, h0]
          | some dk =>
            have h0 : has ks nm = true := by rw [has_look, hl2]; rfl
            have hki := ha _ (lookQ_mem hl2)
            have hbk := bkD_look hl2
            have ih := is_of_ok hf m' j' k dk w (.val w) hki hw (by omega) (held_val w) (by omega)
            have e5 : tf (∃ n w' k, D.tup [.str nm, w] = .tup [.str n, w'] ∧ look ks n = some k ∧ IsOf w' k) = tf (IsOf w dk) := tf_eq ⟨fun ⟨_, _, _, e, z, h⟩ => by cases e; rw [hl2] at z; cases z; exact h, fun z => ⟨nm, w, dk, rfl, hl2, z⟩⟩
            rw [e5]
            simp only [F_is_of, x_str, x_int, x_var, x_bin, x_cmp, x_bl, x_sub, x_slc, x_call, x_tup, x_lst, x_dct, x_and, x_or, x_not, x_isi, x_bfn, xs_nil, xs_cons, bind_ok, d_val, d_own, d_bor, c_eqi, c_eqs, c_lt, c_le, c_gt, c_ge, bl_val, cell_val, cell_own, cell_lent, cell_bor, vas_nil, vas_cons, va_val, va_own, b_add, b_sub, and_nil, or_nil, q_and, q_or, q_at, q_af, q_ot, q_of, c_ind, c_nind, pu_nil, mg_nil, q_an, q_on, c_nes, c_neb, c_eqb, Bool.not_true, Bool.not_false, q_cons, q_nx, q_ret, q_if, q_tt, q_ff, ss_nil, ss_frz, s_asg, s_ret, out_ok, give_val, give_own, fin_ret, fin_nx, ret_val, ret_own, frz_own, frz_val, frz_bor, List.getD_cons_zero, List.getD_cons_succ, startE, List.map_cons, List.map_nil, List.length_cons, List.length_nil, List.replicate, List.cons_append, List.nil_append, List.getElem?_cons_zero, List.getElem?_cons_succ, List.set_cons_zero, List.set_cons_succ, Nat.reduceSub, Nat.reduceAdd, decide_true, decide_false, Int.reduceAdd, Int.reduceSub, beq_self_eq_true, Bool.false_eq_true, if_false, if_true, hc, rd, eq_ts, sub_pair0, sub_pair1, lit_cr, ti, h0, sub_dct hl2, ih]
        · have e2 : tf (∃ n w k, v = .tup [.str n, w] ∧ look ks n = some k ∧ IsOf w k) = false := tf_f fun ⟨_, _, _, e, _⟩ => dv ⟨_, e⟩
          have ti : ([Ty.tuple].any v.isTy) = false := by
            cases v <;> first
              | rfl
              | exact absurd ⟨_, rfl⟩ dv
          rw [e2]
          simp only [F_is_of, x_str, x_int, x_var, x_bin, x_cmp, x_bl, x_sub, x_slc, x_call, x_tup, x_lst, x_dct, x_and, x_or, x_not, x_isi, x_bfn, xs_nil, xs_cons, bind_ok, d_val, d_own, d_bor, c_eqi, c_eqs, c_lt, c_le, c_gt, c_ge, bl_val, cell_val, cell_own, cell_lent, cell_bor, vas_nil, vas_cons, va_val, va_own, b_add, b_sub, and_nil, or_nil, q_and, q_or, q_at, q_af, q_ot, q_of, c_ind, c_nind, pu_nil, mg_nil, q_an, q_on, c_nes, c_neb, c_eqb, Bool.not_true, Bool.not_false, q_cons, q_nx, q_ret, q_if, q_tt, q_ff, ss_nil, ss_frz, s_asg, s_ret, out_ok, give_val, give_own, fin_ret, fin_nx, ret_val, ret_own, frz_own, frz_val, frz_bor, List.getD_cons_zero, List.getD_cons_succ, startE, List.map_cons, List.map_nil, List.length_cons, List.length_nil, List.replicate, List.cons_append, List.nil_append, List.getElem?_cons_zero, List.getElem?_cons_succ, List.set_cons_zero, List.set_cons_succ, Nat.reduceSub, Nat.reduceAdd, decide_true, decide_false, Int.reduceAdd, Int.reduceSub, beq_self_eq_true, Bool.false_eq_true, if_false, if_true, hc, rd, eq_ts, sub_pair0, lit_cr, ti]
theorem fits_ok {i : Nat} (hf : T.fns[i]? = some (F_fits i)) : ∀ (m j k : Nat) (a b : D), Kd m a → Kd j b → bk a ≤ lim → bk b ≤ lim → m + 1 ≤ k → callN T k i [.val a, .val b] = .ok (.val (.bl (tf (Fit a b))))
  | m, j, 0, a, b, ha, hb, la, lb, h => by omega
  | m, j, k + 1, a, b, ha, hb, la, lb, h => by
    rw [call_fin T k i _ _ hf rfl]
    rcases kd_ty ha with ⟨x, ea, ta, _⟩ | ⟨m', na, as, em, ea, ta, hna, ka, nma, aa⟩
    · have q := c_eqd (a := .str x) (b := b) (by unfold eqOk; exact decide_eq_true (by rw [show (D.str x).dep = 0 from rfl, Nat.zero_min]; decide))
      rw [eqv_str] at q
      rw [ea] at ta ⊢
      simp only [F_fits, x_str, x_int, x_var, x_bin, x_cmp, x_bl, x_sub, x_slc, x_call, x_tup, x_lst, x_dct, x_and, x_or, x_not, x_isi, x_bfn, xs_nil, xs_cons, bind_ok, d_val, d_own, d_bor, c_eqi, c_eqs, c_lt, c_le, c_gt, c_ge, bl_val, cell_val, cell_own, cell_lent, cell_bor, vas_nil, vas_cons, va_val, va_own, b_add, b_sub, and_nil, or_nil, q_and, q_or, q_at, q_af, q_ot, q_of, c_ind, c_nind, pu_nil, mg_nil, q_an, q_on, c_nes, c_neb, c_eqb, Bool.not_true, Bool.not_false, q_cons, q_nx, q_ret, q_if, q_tt, q_ff, ss_nil, ss_frz, s_asg, s_ret, out_ok, give_val, give_own, fin_ret, fin_nx, ret_val, ret_own, frz_own, frz_val, frz_bor, List.getD_cons_zero, List.getD_cons_succ, startE, List.map_cons, List.map_nil, List.length_cons, List.length_nil, List.replicate, List.cons_append, List.nil_append, List.getElem?_cons_zero, List.getElem?_cons_succ, List.set_cons_zero, List.set_cons_succ, Nat.reduceSub, Nat.reduceAdd, decide_true, decide_false, Int.reduceAdd, Int.reduceSub, beq_self_eq_true, Bool.false_eq_true, if_false, if_true, ta, q]
    · rcases kd_ty hb with ⟨y, eb, tb, _⟩ | ⟨j', nb, bs, ej, eb, tb, hnb, kb, nmb, ab⟩
      · have q := c_eqd (a := .tup [.str na, .dct as]) (b := .str y) (eq_flat rfl)
        rw [eqv_tupstr] at q
        rw [ea] at ta ⊢
        rw [eb] at tb ⊢
        simp only [F_fits, x_str, x_int, x_var, x_bin, x_cmp, x_bl, x_sub, x_slc, x_call, x_tup, x_lst, x_dct, x_and, x_or, x_not, x_isi, x_bfn, xs_nil, xs_cons, bind_ok, d_val, d_own, d_bor, c_eqi, c_eqs, c_lt, c_le, c_gt, c_ge, bl_val, cell_val, cell_own, cell_lent, cell_bor, vas_nil, vas_cons, va_val, va_own, b_add, b_sub, and_nil, or_nil, q_and, q_or, q_at, q_af, q_ot, q_of, c_ind, c_nind, pu_nil, mg_nil, q_an, q_on, c_nes, c_neb, c_eqb, Bool.not_true, Bool.not_false, q_cons, q_nx, q_ret, q_if, q_tt, q_ff, ss_nil, ss_frz, s_asg, s_ret, out_ok, give_val, give_own, fin_ret, fin_nx, ret_val, ret_own, frz_own, frz_val, frz_bor, List.getD_cons_zero, List.getD_cons_succ, startE, List.map_cons, List.map_nil, List.length_cons, List.length_nil, List.replicate, List.cons_append, List.nil_append, List.getElem?_cons_zero, List.getElem?_cons_succ, List.set_cons_zero, List.set_cons_succ, Nat.reduceSub, Nat.reduceAdd, decide_true, decide_false, Int.reduceAdd, Int.reduceSub, beq_self_eq_true, Bool.false_eq_true, if_false, if_true, ta, tb, q]
      · subst em ej ea eb
        rw [bk_pair] at la lb
        by_cases en : na = nb
        · subst en
          have dn : decide (na = na) = true := decide_eq_true rfl
          have elt : ∀ (e : En) (ks : List (Str × D)) (p : Str × D), (look as p.1).isSome = true → (look bs p.1).isSome = true → callN T k i [.val ((look as p.1).getD .non), .val ((look bs p.1).getD .non)] = .ok (.val (.bl (tf (FitAt as bs p.1)))) := fun e ks p h1 h2 => by
            cases q1 : look as p.1 with
            | none => rw [q1] at h1; cases h1
            | some x =>
              cases q2 : look bs p.1 with
              | none => rw [q2] at h2; cases h2
              | some y =>
                have b1 := bkD_look q1
                have b2 := bkD_look q2
                have ih := fits_ok hf m' j' k x y (aa _ (lookQ_mem q1)) (ab _ (lookQ_mem q2)) (by omega) (by omega) (by omega)
                have e5 : tf (FitAt as bs p.1) = tf (Fit x y) := tf_eq ⟨fun ⟨x', y', z1, z2, z3⟩ => by rw [q1] at z1; rw [q2] at z2; cases z1; cases z2; exact z3, fun z => ⟨x, y, q1, q2, z⟩⟩
                rw [e5]
                exact ih
          rcases hna with hna | ⟨hna, _⟩
          · subst hna
            rw [tf_eq Fit.rcd_iff]
            have hlen : bs.length ≤ lim := by have := bkD_len bs; omega
            have it1 : evIt (callN T k) T.sub [.val (.tup [.str "record", .dct as]), .val (.tup [.str "record", .dct bs]), .no] (.ex (.sub (.var 1) (.cint 1))) = .ok (bs.map fun kv => .str kv.1) := by
              rw [i_ex]
              simp only [x_str, x_int, x_var, x_bin, x_cmp, x_bl, x_sub, x_slc, x_call, x_tup, x_lst, x_dct, x_and, x_or, x_not, x_isi, x_bfn, xs_nil, xs_cons, bind_ok, d_val, d_own, d_bor, c_eqi, c_eqs, c_lt, c_le, c_gt, c_ge, bl_val, cell_val, cell_own, cell_lent, cell_bor, vas_nil, vas_cons, va_val, va_own, b_add, b_sub, and_nil, or_nil, q_and, q_or, q_at, q_af, q_ot, q_of, c_ind, c_nind, pu_nil, mg_nil, q_an, q_on, c_nes, c_neb, c_eqb, Bool.not_true, Bool.not_false, q_cons, q_nx, q_ret, q_if, q_tt, q_ff, ss_nil, ss_frz, s_asg, s_ret, out_ok, give_val, give_own, fin_ret, fin_nx, ret_val, ret_own, frz_own, frz_val, frz_bor, List.getD_cons_zero, List.getD_cons_succ, startE, List.map_cons, List.map_nil, List.length_cons, List.length_nil, List.replicate, List.cons_append, List.nil_append, List.getElem?_cons_zero, List.getElem?_cons_succ, List.set_cons_zero, List.set_cons_succ, Nat.reduceSub, Nat.reduceAdd, decide_true, decide_false, Int.reduceAdd, Int.reduceSub, beq_self_eq_true, Bool.false_eq_true, if_false, if_true, sub_pair1]
              exact items_dct (r := .val (.dct bs)) rfl hlen
            obtain ⟨L, all, all2⟩ := all_names (call := callN T k) (sub := T.sub) (e := [.val (.tup [.str "record", .dct as]), .val (.tup [.str "record", .dct bs]), .no]) (t := 2) (P := FitAt as bs) (elt := .and (.cons (.cmp .inn (.var 2) (.sub (.var 0) (.cint 1))) (.cons (.call i (.cons (.sub (.sub (.var 0) (.cint 1)) (.var 2)) (.cons (.sub (.sub (.var 1) (.cint 1)) (.var 2)) .nil))) .nil))) it1 hlen fun p hp => by
              have hs : List.set (wipeS [2] [.val (.tup [.str "record", .dct as]), .val (.tup [.str "record", .dct bs]), .no]) 2 (.val (.str p.1)) = [.val (.tup [.str "record", .dct as]), .val (.tup [.str "record", .dct bs]), .val (.str p.1)] := rfl
              rw [hs]
              obtain ⟨y, e4⟩ := key_look hp
              cases hv2 : look as p.1 with
              | none =>
                have h0 : has as p.1 = false := by rw [has_look, hv2]; rfl
                rw [tf_f (fun ⟨_, _, z, _⟩ => by rw [hv2] at z; cases z)]
                simp only [x_str, x_int, x_var, x_bin, x_cmp, x_bl, x_sub, x_slc, x_call, x_tup, x_lst, x_dct, x_and, x_or, x_not, x_isi, x_bfn, xs_nil, xs_cons, bind_ok, d_val, d_own, d_bor, c_eqi, c_eqs, c_lt, c_le, c_gt, c_ge, bl_val, cell_val, cell_own, cell_lent, cell_bor, vas_nil, vas_cons, va_val, va_own, b_add, b_sub, and_nil, or_nil, q_and, q_or, q_at, q_af, q_ot, q_of, c_ind, c_nind, pu_nil, mg_nil, q_an, q_on, c_nes, c_neb, c_eqb, Bool.not_true, Bool.not_false, q_cons, q_nx, q_ret, q_if, q_tt, q_ff, ss_nil, ss_frz, s_asg, s_ret, out_ok, give_val, give_own, fin_ret, fin_nx, ret_val, ret_own, frz_own, frz_val, frz_bor, List.getD_cons_zero, List.getD_cons_succ, startE, List.map_cons, List.map_nil, List.length_cons, List.length_nil, List.replicate, List.cons_append, List.nil_append, List.getElem?_cons_zero, List.getElem?_cons_succ, List.set_cons_zero, List.set_cons_succ, Nat.reduceSub, Nat.reduceAdd, decide_true, decide_false, Int.reduceAdd, Int.reduceSub, beq_self_eq_true, Bool.false_eq_true, if_false, if_true, sub_pair1, h0]
              | some x =>
                have h0 : has as p.1 = true := by rw [has_look, hv2]; rfl
                have ih := elt [] bs p (by rw [hv2]; rfl) (by rw [e4]; rfl)
                rw [hv2, e4] at ih
                have ih : callN T k i [.val x, .val y] = _ := ih
                simp only [x_str, x_int, x_var, x_bin, x_cmp, x_bl, x_sub, x_slc, x_call, x_tup, x_lst, x_dct, x_and, x_or, x_not, x_isi, x_bfn, xs_nil, xs_cons, bind_ok, d_val, d_own, d_bor, c_eqi, c_eqs, c_lt, c_le, c_gt, c_ge, bl_val, cell_val, cell_own, cell_lent, cell_bor, vas_nil, vas_cons, va_val, va_own, b_add, b_sub, and_nil, or_nil, q_and, q_or, q_at, q_af, q_ot, q_of, c_ind, c_nind, pu_nil, mg_nil, q_an, q_on, c_nes, c_neb, c_eqb, Bool.not_true, Bool.not_false, q_cons, q_nx, q_ret, q_if, q_tt, q_ff, ss_nil, ss_frz, s_asg, s_ret, out_ok, give_val, give_own, fin_ret, fin_nx, ret_val, ret_own, frz_own, frz_val, frz_bor, List.getD_cons_zero, List.getD_cons_succ, startE, List.map_cons, List.map_nil, List.length_cons, List.length_nil, List.replicate, List.cons_append, List.nil_append, List.getElem?_cons_zero, List.getElem?_cons_succ, List.set_cons_zero, List.set_cons_succ, Nat.reduceSub, Nat.reduceAdd, decide_true, decide_false, Int.reduceAdd, Int.reduceSub, beq_self_eq_true, Bool.false_eq_true, if_false, if_true, h0, sub_pair1, sub_dct hv2, sub_dct e4, ih]
            simp only [F_fits, x_str, x_int, x_var, x_bin, x_cmp, x_bl, x_sub, x_slc, x_call, x_tup, x_lst, x_dct, x_and, x_or, x_not, x_isi, x_bfn, xs_nil, xs_cons, bind_ok, d_val, d_own, d_bor, c_eqi, c_eqs, c_lt, c_le, c_gt, c_ge, bl_val, cell_val, cell_own, cell_lent, cell_bor, vas_nil, vas_cons, va_val, va_own, b_add, b_sub, and_nil, or_nil, q_and, q_or, q_at, q_af, q_ot, q_of, c_ind, c_nind, pu_nil, mg_nil, q_an, q_on, c_nes, c_neb, c_eqb, Bool.not_true, Bool.not_false, q_cons, q_nx, q_ret, q_if, q_tt, q_ff, ss_nil, ss_frz, s_asg, s_ret, out_ok, give_val, give_own, fin_ret, fin_nx, ret_val, ret_own, frz_own, frz_val, frz_bor, List.getD_cons_zero, List.getD_cons_succ, startE, List.map_cons, List.map_nil, List.length_cons, List.length_nil, List.replicate, List.cons_append, List.nil_append, List.getElem?_cons_zero, List.getElem?_cons_succ, List.set_cons_zero, List.set_cons_succ, Nat.reduceSub, Nat.reduceAdd, decide_true, decide_false, Int.reduceAdd, Int.reduceSub, beq_self_eq_true, Bool.false_eq_true, if_false, if_true, ta, tb, sub_pair0, dn, lit_rr, all, all2]
          · subst hna
            rw [tf_eq Fit.cho_iff]
            have hlen : as.length ≤ lim := by have := bkD_len as; omega
            have it1 : evIt (callN T k) T.sub [.val (.tup [.str "choice", .dct as]), .val (.tup [.str "choice", .dct bs]), .no] (.ex (.sub (.var 0) (.cint 1))) = .ok (as.map fun kv => .str kv.1) := by
              rw [i_ex]
              simp only [x_str, x_int, x_var, x_bin, x_cmp, x_bl, x_sub, x_slc, x_call, x_tup, x_lst, x_dct, x_and, x_or, x_not, x_isi, x_bfn, xs_nil, xs_cons, bind_ok, d_val, d_own, d_bor, c_eqi, c_eqs, c_lt, c_le, c_gt, c_ge, bl_val, cell_val, cell_own, cell_lent, cell_bor, vas_nil, vas_cons, va_val, va_own, b_add, b_sub, and_nil, or_nil, q_and, q_or, q_at, q_af, q_ot, q_of, c_ind, c_nind, pu_nil, mg_nil, q_an, q_on, c_nes, c_neb, c_eqb, Bool.not_true, Bool.not_false, q_cons, q_nx, q_ret, q_if, q_tt, q_ff, ss_nil, ss_frz, s_asg, s_ret, out_ok, give_val, give_own, fin_ret, fin_nx, ret_val, ret_own, frz_own, frz_val, frz_bor, List.getD_cons_zero, List.getD_cons_succ, startE, List.map_cons, List.map_nil, List.length_cons, List.length_nil, List.replicate, List.cons_append, List.nil_append, List.getElem?_cons_zero, List.getElem?_cons_succ, List.set_cons_zero, List.set_cons_succ, Nat.reduceSub, Nat.reduceAdd, decide_true, decide_false, Int.reduceAdd, Int.reduceSub, beq_self_eq_true, Bool.false_eq_true, if_false, if_true, sub_pair1]
              exact items_dct (r := .val (.dct as)) rfl hlen
            obtain ⟨L, all, all2⟩ := all_names (call := callN T k) (sub := T.sub) (e := [.val (.tup [.str "choice", .dct as]), .val (.tup [.str "choice", .dct bs]), .no]) (t := 2) (P := FitAt as bs) (elt := .and (.cons (.cmp .inn (.var 2) (.sub (.var 1) (.cint 1))) (.cons (.call i (.cons (.sub (.sub (.var 0) (.cint 1)) (.var 2)) (.cons (.sub (.sub (.var 1) (.cint 1)) (.var 2)) .nil))) .nil))) it1 hlen fun p hp => by
              have hs : List.set (wipeS [2] [.val (.tup [.str "choice", .dct as]), .val (.tup [.str "choice", .dct bs]), .no]) 2 (.val (.str p.1)) = [.val (.tup [.str "choice", .dct as]), .val (.tup [.str "choice", .dct bs]), .val (.str p.1)] := rfl
              rw [hs]
              obtain ⟨x, e4⟩ := key_look hp
              cases hv2 : look bs p.1 with
              | none =>
                have h0 : has bs p.1 = false := by rw [has_look, hv2]; rfl
                rw [tf_f (fun ⟨_, _, _, z, _⟩ => by rw [hv2] at z; cases z)]
                simp only [x_str, x_int, x_var, x_bin, x_cmp, x_bl, x_sub, x_slc, x_call, x_tup, x_lst, x_dct, x_and, x_or, x_not, x_isi, x_bfn, xs_nil, xs_cons, bind_ok, d_val, d_own, d_bor, c_eqi, c_eqs, c_lt, c_le, c_gt, c_ge, bl_val, cell_val, cell_own, cell_lent, cell_bor, vas_nil, vas_cons, va_val, va_own, b_add, b_sub, and_nil, or_nil, q_and, q_or, q_at, q_af, q_ot, q_of, c_ind, c_nind, pu_nil, mg_nil, q_an, q_on, c_nes, c_neb, c_eqb, Bool.not_true, Bool.not_false, q_cons, q_nx, q_ret, q_if, q_tt, q_ff, ss_nil, ss_frz, s_asg, s_ret, out_ok, give_val, give_own, fin_ret, fin_nx, ret_val, ret_own, frz_own, frz_val, frz_bor, List.getD_cons_zero, List.getD_cons_succ, startE, List.map_cons, List.map_nil, List.length_cons, List.length_nil, List.replicate, List.cons_append, List.nil_append, List.getElem?_cons_zero, List.getElem?_cons_succ, List.set_cons_zero, List.set_cons_succ, Nat.reduceSub, Nat.reduceAdd, decide_true, decide_false, Int.reduceAdd, Int.reduceSub, beq_self_eq_true, Bool.false_eq_true, if_false, if_true, sub_pair1, h0]
              | some y =>
                have h0 : has bs p.1 = true := by rw [has_look, hv2]; rfl
                have ih := elt [] bs p (by rw [e4]; rfl) (by rw [hv2]; rfl)
                rw [hv2, e4] at ih
                have ih : callN T k i [.val x, .val y] = _ := ih
                simp only [x_str, x_int, x_var, x_bin, x_cmp, x_bl, x_sub, x_slc, x_call, x_tup, x_lst, x_dct, x_and, x_or, x_not, x_isi, x_bfn, xs_nil, xs_cons, bind_ok, d_val, d_own, d_bor, c_eqi, c_eqs, c_lt, c_le, c_gt, c_ge, bl_val, cell_val, cell_own, cell_lent, cell_bor, vas_nil, vas_cons, va_val, va_own, b_add, b_sub, and_nil, or_nil, q_and, q_or, q_at, q_af, q_ot, q_of, c_ind, c_nind, pu_nil, mg_nil, q_an, q_on, c_nes, c_neb, c_eqb, Bool.not_true, Bool.not_false, q_cons, q_nx, q_ret, q_if, q_tt, q_ff, ss_nil, ss_frz, s_asg, s_ret, out_ok, give_val, give_own, fin_ret, fin_nx, ret_val, ret_own, frz_own, frz_val, frz_bor, List.getD_cons_zero, List.getD_cons_succ, startE, List.map_cons, List.map_nil, List.length_cons, List.length_nil, List.replicate, List.cons_append, List.nil_append, List.getElem?_cons_zero, List.getElem?_cons_succ, List.set_cons_zero, List.set_cons_succ, Nat.reduceSub, Nat.reduceAdd, decide_true, decide_false, Int.reduceAdd, Int.reduceSub, beq_self_eq_true, Bool.false_eq_true, if_false, if_true, h0, sub_pair1, sub_dct hv2, sub_dct e4, ih]
            simp only [F_fits, x_str, x_int, x_var, x_bin, x_cmp, x_bl, x_sub, x_slc, x_call, x_tup, x_lst, x_dct, x_and, x_or, x_not, x_isi, x_bfn, xs_nil, xs_cons, bind_ok, d_val, d_own, d_bor, c_eqi, c_eqs, c_lt, c_le, c_gt, c_ge, bl_val, cell_val, cell_own, cell_lent, cell_bor, vas_nil, vas_cons, va_val, va_own, b_add, b_sub, and_nil, or_nil, q_and, q_or, q_at, q_af, q_ot, q_of, c_ind, c_nind, pu_nil, mg_nil, q_an, q_on, c_nes, c_neb, c_eqb, Bool.not_true, Bool.not_false, q_cons, q_nx, q_ret, q_if, q_tt, q_ff, ss_nil, ss_frz, s_asg, s_ret, out_ok, give_val, give_own, fin_ret, fin_nx, ret_val, ret_own, frz_own, frz_val, frz_bor, List.getD_cons_zero, List.getD_cons_succ, startE, List.map_cons, List.map_nil, List.length_cons, List.length_nil, List.replicate, List.cons_append, List.nil_append, List.getElem?_cons_zero, List.getElem?_cons_succ, List.set_cons_zero, List.set_cons_succ, Nat.reduceSub, Nat.reduceAdd, decide_true, decide_false, Int.reduceAdd, Int.reduceSub, beq_self_eq_true, Bool.false_eq_true, if_false, if_true, ta, tb, sub_pair0, dn, lit_cr, all, all2]
        · have dn : decide (na = nb) = false := decide_eq_false en
          rw [tf_f (fun z => en z.make)]
          simp only [F_fits, x_str, x_int, x_var, x_bin, x_cmp, x_bl, x_sub, x_slc, x_call, x_tup, x_lst, x_dct, x_and, x_or, x_not, x_isi, x_bfn, xs_nil, xs_cons, bind_ok, d_val, d_own, d_bor, c_eqi, c_eqs, c_lt, c_le, c_gt, c_ge, bl_val, cell_val, cell_own, cell_lent, cell_bor, vas_nil, vas_cons, va_val, va_own, b_add, b_sub, and_nil, or_nil, q_and, q_or, q_at, q_af, q_ot, q_of, c_ind, c_nind, pu_nil, mg_nil, q_an, q_on, c_nes, c_neb, c_eqb, Bool.not_true, Bool.not_false, q_cons, q_nx, q_ret, q_if, q_tt, q_ff, ss_nil, ss_frz, s_asg, s_ret, out_ok, give_val, give_own, fin_ret, fin_nx, ret_val, ret_own, frz_own, frz_val, frz_bor, List.getD_cons_zero, List.getD_cons_succ, startE, List.map_cons, List.map_nil, List.length_cons, List.length_nil, List.replicate, List.cons_append, List.nil_append, List.getElem?_cons_zero, List.getElem?_cons_succ, List.set_cons_zero, List.set_cons_succ, Nat.reduceSub, Nat.reduceAdd, decide_true, decide_false, Int.reduceAdd, Int.reduceSub, beq_self_eq_true, Bool.false_eq_true, if_false, if_true, ta, tb, sub_pair0, dn]
end
end Ev
set_option Elab.async false
set_option linter.all false
set_option maxRecDepth 100000
set_option maxHeartbeats 4000000
set_option autoImplicit false
/-! More helpers: loops over a dict's names. -/
namespace Ev
open PySem L2
section
variable {call : Nat → List RV → Rs RV} {sub : Sub} {e : En}
theorem s_asg2 {i j : Nat} {a b : X} : evS call sub e (.asg2 i j a b) = ((evX call sub e a).bind fun x => (evX call sub e b).bind fun y => (giveS x).bind fun s => (flatR y).bind fun u => .ok (s, u)).out e fun p => .nx ((e.set i p.1).set j p.2) := by conv => lhs; unfold evS
theorem q_bad {cond : X} {b : Bool} (h : (evX call sub e cond).bind asBl = .ok (!b)) : evSs call sub e (.cons (.ifs cond (.cons (.ret (.cbl false)) .nil) .nil) .nil) = if b = true then .nx e else .ret (.val (.bl false)) := by
  rw [q_cons, q_if, h]
  cases b
  · simp only [x_str, x_int, x_var, x_bin, x_cmp, x_bl, x_sub, x_slc, x_call, x_tup, x_lst, x_dct, x_and, x_or, x_not, x_isi, x_bfn, xs_nil, xs_cons, bind_ok, d_val, d_own, d_bor, c_eqi, c_eqs, c_lt, c_le, c_gt, c_ge, bl_val, cell_val, cell_own, cell_lent, cell_bor, vas_nil, vas_cons, va_val, va_own, b_add, b_sub, and_nil, or_nil, q_and, q_or, q_at, q_af, q_ot, q_of, c_ind, c_nind, pu_nil, mg_nil, q_an, q_on, c_nes, c_neb, c_eqb, Bool.not_true, Bool.not_false, q_cons, q_nx, q_ret, q_if, q_tt, q_ff, ss_nil, ss_frz, s_asg, s_ret, out_ok, give_val, give_own, fin_ret, fin_nx, ret_val, ret_own, frz_own, frz_val, frz_bor, List.getD_cons_zero, List.getD_cons_succ, startE, List.map_cons, List.map_nil, List.length_cons, List.length_nil, List.replicate, List.cons_append, List.nil_append, List.getElem?_cons_zero, List.getElem?_cons_succ, List.set_cons_zero, List.set_cons_succ, Nat.reduceSub, Nat.reduceAdd, decide_true, decide_false, Int.reduceAdd, Int.reduceSub, beq_self_eq_true, Bool.false_eq_true, if_false, if_true]
  · simp only [x_str, x_int, x_var, x_bin, x_cmp, x_bl, x_sub, x_slc, x_call, x_tup, x_lst, x_dct, x_and, x_or, x_not, x_isi, x_bfn, xs_nil, xs_cons, bind_ok, d_val, d_own, d_bor, c_eqi, c_eqs, c_lt, c_le, c_gt, c_ge, bl_val, cell_val, cell_own, cell_lent, cell_bor, vas_nil, vas_cons, va_val, va_own, b_add, b_sub, and_nil, or_nil, q_and, q_or, q_at, q_af, q_ot, q_of, c_ind, c_nind, pu_nil, mg_nil, q_an, q_on, c_nes, c_neb, c_eqb, Bool.not_true, Bool.not_false, q_cons, q_nx, q_ret, q_if, q_tt, q_ff, ss_nil, ss_frz, s_asg, s_ret, out_ok, give_val, give_own, fin_ret, fin_nx, ret_val, ret_own, frz_own, frz_val, frz_bor, List.getD_cons_zero, List.getD_cons_succ, startE, List.map_cons, List.map_nil, List.length_cons, List.length_nil, List.replicate, List.cons_append, List.nil_append, List.getElem?_cons_zero, List.getElem?_cons_succ, List.set_cons_zero, List.set_cons_succ, Nat.reduceSub, Nat.reduceAdd, decide_true, decide_false, Int.reduceAdd, Int.reduceSub, beq_self_eq_true, Bool.false_eq_true, if_false, if_true]
theorem for_all_ret {t : Nat} {it : It} {cond : X} {ks : List (Str × D)} {P : Str → Prop} (hit : evIt call sub e it = .ok (ks.map fun kv => .str kv.1)) (hle : lendE it e = e)
    (h : ∀ p, p ∈ ks → (evX call sub (e.set t (.val (.str p.1))) cond).bind asBl = .ok (!tf (P p.1))) :
    evSs call sub e (.cons (.forr [t] it (.cons (.ifs cond (.cons (.ret (.cbl false)) .nil) .nil) .nil)) (.cons (.ret (.cbl true)) .nil)) = .ret (.val (.bl (tf (∀ p, p ∈ ks → P p.1)))) := by
  have go : ∀ (ks : List (Str × D)) (e1 : En), (∀ x, e1.set t x = e.set t x) → (∀ p, p ∈ ks → (evX call sub (e.set t (.val (.str p.1))) cond).bind asBl = .ok (!tf (P p.1))) →
      (∃ e2, loopF (fun d e' => (setT [t] d e').out e' fun e2 => evSs call sub e2 (.cons (.ifs cond (.cons (.ret (.cbl false)) .nil) .nil) .nil)) (ks.map fun kv => .str kv.1) e1 = .nx e2 ∧ ∀ p, p ∈ ks → P p.1) ∨
      (loopF (fun d e' => (setT [t] d e').out e' fun e2 => evSs call sub e2 (.cons (.ifs cond (.cons (.ret (.cbl false)) .nil) .nil) .nil)) (ks.map fun kv => .str kv.1) e1 = .ret (.val (.bl false)) ∧ ¬ ∀ p, p ∈ ks → P p.1) := by
    intro ks
    induction ks with
    | nil => intro e1 _ _; exact .inl ⟨e1, rfl, fun p h => by cases h⟩
    | cons p r ih =>
      intro e1 he hc
      have one := q_bad (hc p List.mem_cons_self)
      have step : ((setT [t] (.str p.1) e1).out e1 fun e2 => evSs call sub e2 (.cons (.ifs cond (.cons (.ret (.cbl false)) .nil) .nil) .nil)) = if tf (P p.1) = true then .nx (e.set t (.val (.str p.1))) else .ret (.val (.bl false)) := by
        show evSs call sub (e1.set t (.val (.str p.1))) _ = _
        rw [he]
        exact one
      cases q : tf (P p.1) with
      | true =>
        rw [q, if_pos rfl] at step
        have hp := tf_iff.mp q
        rcases ih (e.set t (.val (.str p.1))) (fun x => by rw [List.set_set]) (fun z hz => hc z (List.mem_cons_of_mem _ hz)) with ⟨e2, h1, h2⟩ | ⟨h1, h2⟩
        · refine .inl ⟨e2, ?_, fun z hz => ?_⟩
          · rw [List.map_cons]
            unfold loopF
            rw [step]
            exact h1
          · rcases List.mem_cons.mp hz with e3 | hz
            · rw [e3]; exact hp
            · exact h2 z hz
        · refine .inr ⟨?_, fun z => h2 fun w hw => z w (List.mem_cons_of_mem _ hw)⟩
          rw [List.map_cons]
          unfold loopF
          rw [step]
          exact h1
      | false =>
        rw [q, if_neg (by decide)] at step
        refine .inr ⟨?_, fun z => by rw [tf_t (z p List.mem_cons_self)] at q; cases q⟩
        rw [List.map_cons]
        unfold loopF
        rw [step]
  rw [q_cons, s_for, hit, out_ok, hle]
  rcases go ks e (fun _ => rfl) h with ⟨e2, h1, h2⟩ | ⟨h1, h2⟩
  · rw [h1, tf_t h2]
    show runSs call sub (.nx (backE e e2)) _ = _
    simp only [x_str, x_int, x_var, x_bin, x_cmp, x_bl, x_sub, x_slc, x_call, x_tup, x_lst, x_dct, x_and, x_or, x_not, x_isi, x_bfn, xs_nil, xs_cons, bind_ok, d_val, d_own, d_bor, c_eqi, c_eqs, c_lt, c_le, c_gt, c_ge, bl_val, cell_val, cell_own, cell_lent, cell_bor, vas_nil, vas_cons, va_val, va_own, b_add, b_sub, and_nil, or_nil, q_and, q_or, q_at, q_af, q_ot, q_of, c_ind, c_nind, pu_nil, mg_nil, q_an, q_on, c_nes, c_neb, c_eqb, Bool.not_true, Bool.not_false, q_cons, q_nx, q_ret, q_if, q_tt, q_ff, ss_nil, ss_frz, s_asg, s_ret, out_ok, give_val, give_own, fin_ret, fin_nx, ret_val, ret_own, frz_own, frz_val, frz_bor, List.getD_cons_zero, List.getD_cons_succ, startE, List.map_cons, List.map_nil, List.length_cons, List.length_nil, List.replicate, List.cons_append, List.nil_append, List.getElem?_cons_zero, List.getElem?_cons_succ, List.set_cons_zero, List.set_cons_succ, Nat.reduceSub, Nat.reduceAdd, decide_true, decide_false, Int.reduceAdd, Int.reduceSub, beq_self_eq_true, Bool.false_eq_true, if_false, if_true]
  · rw [h1, tf_f h2]
    rfl
end
theorem eq_emp {fs : List (Str × D)} : cmpop .eq (.dct fs) (.dct []) = .ok (.val (.bl fs.isEmpty)) := by
  rw [c_eqd (by unfold eqOk; exact decide_eq_true (Nat.le_trans (Nat.min_le_right _ _) (by decide)))]
  cases fs with
  | nil => rfl
  | cons p r => unfold D.eqv; rfl
theorem bkD_take {ks : List (Str × D)} {i : Nat} {p : Str × D} (h : ks[i]? = some p) : bkD (ks.take (i + 1)) = bkD (ks.take i) + (p.1.length + bk p.2 + 2) := by
  rw [List.take_add_one, h, bkD_app]
  obtain ⟨k, v⟩ := p
  exact congrArg (bkD (ks.take i) + ·) (Nat.add_zero _)
theorem bkD_full (ks : List (Str × D)) : bkD (ks.take ks.length) = bkD ks := by rw [List.take_length]
theorem bkD_takeLe (ks : List (Str × D)) (i : Nat) : bkD (ks.take i) ≤ bkD ks := by
  have h := bkD_app (ks.take i) (ks.drop i)
  rw [List.take_append_drop] at h
  omega
theorem IsAt.put {vs ks : List (Str × D)} {n n' : Str} {v k : D} (hk : look ks n = some k) (hv : IsOf v k) (h : IsAt vs ks n' ∨ n' = n) : IsAt (put vs n v) ks n' := by
  by_cases q : n = n'
  · subst q
    exact ⟨v, k, by rw [look_put, if_pos rfl], hk, hv⟩
  · rcases h with ⟨w, k', h1, h2, h3⟩ | h
    · exact ⟨w, k', by rw [look_put, if_neg q]; exact h1, h2, h3⟩
    · exact absurd h.symm q
/-- exchanged in its place -/
theorem bkD_exch {ks : List (Str × D)} {k : Str} {v w : D} (h : Keys ks) (hw : look ks k = some w) : bkD (put ks k v) + bk w = bkD ks + bk v := by
  have hh : has ks k = true := by rw [has_look, hw]; rfl
  unfold put
  rw [if_pos hh]
  clear hh
  induction ks with
  | nil => cases hw
  | cons p r ih =>
    obtain ⟨k', v'⟩ := p
    unfold Keys at h
    rw [List.map_cons, List.nodup_cons] at h
    rw [look_cons] at hw
    rw [List.map_cons]
    by_cases e : k' = k
    · rw [if_pos e] at hw ⊢
      cases hw
      have z : (r.map fun kv => if kv.1 = k then (kv.1, v) else kv) = r := by
        conv => rhs; rw [← List.map_id r]
        refine List.map_congr_left fun q hq => ?_
        have ne : q.1 ≠ k := fun z => h.1 (by show k' ∈ _; rw [e, ← z]; exact List.mem_map.mpr ⟨_, hq, rfl⟩)
        rw [if_neg ne]; rfl
      show k'.length + bk v + 2 + bkD _ + bk w = k'.length + bk w + 2 + bkD r + bk v
      rw [z]
      omega
    · rw [if_neg e] at hw ⊢
      have q := ih h.2 hw
      show k'.length + bk v' + 2 + bkD _ + bk w = k'.length + bk v' + 2 + bkD r + bk v
      omega
end Ev
set_option Elab.async false
set_option linter.all false
set_option maxRecDepth 100000
set_option maxHeartbeats 4000000
set_option autoImplicit false
/-! Where two kinds meet: the least kind that both fit; errors on the way. -/
namespace Ev
open PySem L2
/-- no dict within is longer than L -/
inductive Ln (L : Nat) : D → Prop where
  | str (s : Str) : Ln L (.str s)
  | tup {nm : Str} {ks : List (Str × D)} (l : ks.length ≤ L) (a : ∀ p, p ∈ ks → Ln L p.2) : Ln L (.tup [.str nm, .dct ks])
theorem Ln.mono {L L' : Nat} (h : L ≤ L') {d : D} (l : Ln L d) : Ln L' d := by
  induction l with
  | str s => exact .str s
  | tup l a ih => exact .tup (Nat.le_trans l h) ih
theorem Ln.inv {L : Nat} {nm : Str} {ks : List (Str × D)} (h : Ln L (.tup [.str nm, .dct ks])) : ks.length ≤ L ∧ ∀ p, p ∈ ks → Ln L p.2 := by
  cases h with
  | tup l a => exact ⟨l, a⟩
theorem Kd.ln {m L : Nat} {d : D} (h : Kd m d) : bk d ≤ L → Ln L d := by
  induction h with
  | num => intro _; exact .str _
  | tru => intro _; exact .str _
  | @tup m nm ks h k n a ih =>
    intro b
    rw [bk_pair] at b
    have l := bkD_len ks
    exact .tup (by omega) fun p hp => ih p hp (by have := bkD_mem hp; omega)
/-- the least kind that both fit -/
structure Lub (a b k : D) : Prop where
  l : Fit a k
  r : Fit b k
  least : ∀ c, Fit a c → Fit b c → Fit k c
def NoUb (a b : D) : Prop := ∀ c, ¬ (Fit a c ∧ Fit b c)
theorem Lub.no {a b k : D} (h : Lub a b k) (n : NoUb a b) : False := n k ⟨h.l, h.r⟩
theorem Lub.swap {a b k : D} (h : Lub a b k) : Lub b a k := ⟨h.r, h.l, fun c p q => h.least c q p⟩
theorem NoUb.swap {a b : D} (h : NoUb a b) : NoUb b a := fun c ⟨p, q⟩ => h c ⟨q, p⟩
theorem Fit.look_rcd {as bs : List (Str × D)} (h : Fit (.tup [.str "record", .dct as]) (.tup [.str "record", .dct bs])) {n : Str} {y : D} (hy : look bs n = some y) : ∃ x, look as n = some x ∧ Fit x y := by
  obtain ⟨x, y', h1, h2, h3⟩ := Fit.rcd_iff.mp h _ (lookQ_mem hy)
  have h2 : look bs n = some y' := h2
  rw [hy] at h2
  cases h2
  exact ⟨x, h1, h3⟩
theorem Fit.look_cho {as bs : List (Str × D)} (h : Fit (.tup [.str "choice", .dct as]) (.tup [.str "choice", .dct bs])) {n : Str} {x : D} (hx : look as n = some x) : ∃ y, look bs n = some y ∧ Fit x y := by
  obtain ⟨x', y, h1, h2, h3⟩ := Fit.cho_iff.mp h _ (lookQ_mem hx)
  have h1 : look as n = some x' := h1
  rw [hx] at h1
  cases h1
  exact ⟨y, h2, h3⟩
theorem Fit.to_rcd {as : List (Str × D)} {c : D} (h : Fit (.tup [.str "record", .dct as]) c) : ∃ cs, c = .tup [.str "record", .dct cs] := by
  generalize e : D.tup [.str "record", .dct as] = a at h
  cases h with
  | str => cases e
  | rcd => exact ⟨_, rfl⟩
  | cho =>
    have z := D.tup.inj e
    injection z with z _
    exact absurd (D.str.inj z) rec_ne
theorem Fit.to_cho {as : List (Str × D)} {c : D} (h : Fit (.tup [.str "choice", .dct as]) c) : ∃ cs, c = .tup [.str "choice", .dct cs] := by
  generalize e : D.tup [.str "choice", .dct as] = a at h
  cases h with
  | str => cases e
  | cho => exact ⟨_, rfl⟩
  | rcd =>
    have z := D.tup.inj e
    injection z with z _
    exact absurd (D.str.inj z).symm rec_ne
/-- the fields of both that meet -/
def FieldC (as bs fs : List (Str × D)) : Prop := ∀ n, (∃ x y d, look as n = some x ∧ look bs n = some y ∧ look fs n = some d ∧ Lub x y d) ∨ (look fs n = none ∧ ∀ x y, look as n = some x → look bs n = some y → NoUb x y)
theorem FieldC.lub {as bs fs : List (Str × D)} (h : FieldC as bs fs) : Lub (.tup [.str "record", .dct as]) (.tup [.str "record", .dct bs]) (.tup [.str "record", .dct fs]) := by
  refine ⟨Fit.rcd_iff.mpr fun p hp => ?_, Fit.rcd_iff.mpr fun p hp => ?_, fun c p q => ?_⟩
  · obtain ⟨d, hd⟩ := key_look hp
    rcases h p.1 with ⟨x, y, d', h1, h2, h3, h4⟩ | ⟨h1, _⟩
    · exact ⟨x, d', h1, h3, h4.l⟩
    · rw [hd] at h1; cases h1
  · obtain ⟨d, hd⟩ := key_look hp
    rcases h p.1 with ⟨x, y, d', h1, h2, h3, h4⟩ | ⟨h1, _⟩
    · exact ⟨y, d', h2, h3, h4.r⟩
    · rw [hd] at h1; cases h1
  · obtain ⟨cs, e⟩ := p.to_rcd
    subst e
    refine Fit.rcd_iff.mpr fun z hz => ?_
    obtain ⟨c, hc⟩ := key_look hz
    obtain ⟨x, h1, f1⟩ := p.look_rcd hc
    obtain ⟨y, h2, f2⟩ := q.look_rcd hc
    rcases h z.1 with ⟨x', y', d, k1, k2, k3, k4⟩ | ⟨_, k2⟩
    · rw [h1] at k1
      rw [h2] at k2
      cases k1
      cases k2
      exact ⟨d, c, k3, hc, k4.least c f1 f2⟩
    · exact absurd ⟨f1, f2⟩ (k2 x y h1 h2 c)
/-- the shapes of either, those of both met -/
def ShapeC (as bs fs : List (Str × D)) : Prop := ∀ n, (∃ x y d, look as n = some x ∧ look bs n = some y ∧ look fs n = some d ∧ Lub x y d) ∨ ((look as n = none ∨ look bs n = none) ∧ look fs n = (look as n).or (look bs n))
theorem ShapeC.lub {m : Nat} {as bs fs : List (Str × D)} (ka : ∀ p, p ∈ as → Kd m p.2) (kb : ∀ p, p ∈ bs → Kd m p.2) (h : ShapeC as bs fs) : Lub (.tup [.str "choice", .dct as]) (.tup [.str "choice", .dct bs]) (.tup [.str "choice", .dct fs]) := by
  refine ⟨Fit.cho_iff.mpr fun p hp => ?_, Fit.cho_iff.mpr fun p hp => ?_, fun c p q => ?_⟩
  · obtain ⟨d, hd⟩ := key_look hp
    rcases h p.1 with ⟨x, y, d', h1, h2, h3, h4⟩ | ⟨_, h2⟩
    · exact ⟨x, d', h1, h3, h4.l⟩
    · rw [hd] at h2
      exact ⟨d, d, hd, h2, Fit.refl (ka _ (lookQ_mem hd))⟩
  · obtain ⟨d, hd⟩ := key_look hp
    rcases h p.1 with ⟨x, y, d', h1, h2, h3, h4⟩ | ⟨h1, h2⟩
    · exact ⟨y, d', h2, h3, h4.r⟩
    · rcases h1 with h1 | h1
      · rw [h1, hd] at h2
        exact ⟨d, d, hd, h2, Fit.refl (kb _ (lookQ_mem hd))⟩
      · rw [hd] at h1; cases h1
  · obtain ⟨cs, e⟩ := p.to_cho
    subst e
    refine Fit.cho_iff.mpr fun z hz => ?_
    obtain ⟨d, hd⟩ := key_look hz
    rcases h z.1 with ⟨x, y, d', h1, h2, h3, h4⟩ | ⟨_, h2⟩
    · obtain ⟨c1, k1, f1⟩ := p.look_cho h1
      obtain ⟨c2, k2, f2⟩ := q.look_cho h2
      rw [k1] at k2
      cases k2
      exact ⟨d', c1, h3, k1, h4.least c1 f1 f2⟩
    · rw [hd] at h2
      cases q1 : look as z.1 with
      | some x =>
        rw [q1] at h2
        cases (show some d = some x from h2)
        obtain ⟨c1, k1, f1⟩ := p.look_cho q1
        exact ⟨d, c1, hd, k1, f1⟩
      | none =>
        rw [q1] at h2
        have h2 : some d = look bs z.1 := h2
        obtain ⟨c1, k1, f1⟩ := q.look_cho h2.symm
        exact ⟨d, c1, hd, k1, f1⟩
theorem cho_noUb {as bs : List (Str × D)} {n : Str} {x y : D} (h1 : look as n = some x) (h2 : look bs n = some y) (h : NoUb x y) : NoUb (.tup [.str "choice", .dct as]) (.tup [.str "choice", .dct bs]) := fun c ⟨p, q⟩ => by
  obtain ⟨cs, e⟩ := p.to_cho
  subst e
  obtain ⟨c1, k1, f1⟩ := p.look_cho h1
  obtain ⟨c2, k2, f2⟩ := q.look_cho h2
  rw [k1] at k2
  cases k2
  exact h c1 ⟨f1, f2⟩
theorem make_noUb {na nb : Str} {as bs : List (Str × D)} (ha : na = "record" ∨ na = "choice") (hb : nb = "record" ∨ nb = "choice") (ne : na ≠ nb) : NoUb (.tup [.str na, .dct as]) (.tup [.str nb, .dct bs]) := fun c ⟨p, q⟩ => by
  rcases ha with e | e <;> rcases hb with f | f
  · exact ne (e.trans f.symm)
  · subst e f
    obtain ⟨cs, e1⟩ := p.to_rcd
    obtain ⟨cs', e2⟩ := q.to_cho
    rw [e1] at e2
    have z := D.tup.inj e2
    injection z with z _
    exact rec_ne (D.str.inj z)
  · subst e f
    obtain ⟨cs, e1⟩ := p.to_cho
    obtain ⟨cs', e2⟩ := q.to_rcd
    rw [e1] at e2
    have z := D.tup.inj e2
    injection z with z _
    exact rec_ne (D.str.inj z).symm
  · exact ne (e.trans f.symm)
/-- a plain kind meets itself alone -/
theorem str_meet {s : Str} {b : D} : (b = .str s ∧ Lub (.str s) b (.str s)) ∨ (b ≠ .str s ∧ NoUb (.str s) b) := by
  by_cases h : b = .str s
  · subst h
    exact .inl ⟨rfl, .str s, .str s, fun c p _ => p⟩
  · refine .inr ⟨h, fun c ⟨p, q⟩ => ?_⟩
    have e := p.str_l
    subst e
    exact h q.str_r

/-! ### kinds that fit either way are equal -/
theorem nodup_len : ∀ {l1 l2 : List Str}, l1.Nodup → (∀ x, x ∈ l1 → x ∈ l2) → l1.length ≤ l2.length
  | [], _, _, _ => Nat.zero_le _
  | x :: r, l2, h, s => by
    rw [List.nodup_cons] at h
    have k := nodup_len (l1 := r) (l2 := l2.erase x) h.2 fun y hy => by
      have ne : y ≠ x := fun e => h.1 (by rw [← e]; exact hy)
      exact (List.mem_erase_of_ne ne).mpr (s y (List.mem_cons_of_mem _ hy))
    have hx := s x List.mem_cons_self
    rw [List.length_erase_of_mem hx] at k
    have p := List.length_pos_of_mem hx
    rw [List.length_cons]
    omega
theorem eqvD_iff : ∀ {as bs : List (Str × D)}, D.eqvD as bs = true ↔ ∀ p, p ∈ as → ∃ w, look bs p.1 = some w ∧ D.eqv p.2 w = true
  | [], bs => by
    unfold D.eqvD
    exact ⟨fun _ p h => (by cases h), fun _ => rfl⟩
  | (k, v) :: r, bs => by
    unfold D.eqvD
    rw [Bool.and_eq_true, eqvD_iff (as := r) (bs := bs)]
    have e : (match bs.find? (fun kv => decide (kv.1 = k)) with
      | some kv => D.eqv v kv.2
      | none => false) = true ↔ ∃ w, look bs k = some w ∧ D.eqv v w = true := by
      unfold look
      cases q : bs.find? (fun kv => decide (kv.1 = k)) with
      | none => exact ⟨fun h => (by cases h), fun ⟨w, h, _⟩ => (by cases h)⟩
      | some kv => exact ⟨fun h => ⟨kv.2, rfl, h⟩, fun ⟨w, h, h2⟩ => (by cases h; exact h2)⟩
    constructor
    · rintro ⟨h1, h2⟩ p hp
      rcases List.mem_cons.mp hp with z | hp
      · rw [z]; exact e.mp h1
      · exact h2 p hp
    · intro h
      exact ⟨e.mpr (h (k, v) List.mem_cons_self), fun p hp => h p (List.mem_cons_of_mem _ hp)⟩
theorem eqv_pair {na nb : Str} {as bs : List (Str × D)} : D.eqv (.tup [.str na, .dct as]) (.tup [.str nb, .dct bs]) = (decide (na = nb) && (as.length == bs.length && D.eqvD as bs)) := by
  simp only [D.eqv, D.eqvL, Bool.and_true]
theorem keys_sub {as bs : List (Str × D)} (ka : Keys as) (h : ∀ n x, look as n = some x → (look bs n).isSome = true) : as.length ≤ bs.length := by
  have k := nodup_len (l1 := as.map (·.1)) (l2 := bs.map (·.1)) (show (as.map (·.1)).Nodup from ka) fun n hn => by
    obtain ⟨p, hp, e⟩ := List.mem_map.mp hn
    obtain ⟨x, hx⟩ := key_look hp
    have z := h _ _ hx
    rw [← has_look] at z
    rw [← e]
    exact has_iff.mp z
  rw [List.length_map, List.length_map] at k
  exact k
theorem eqv_fit : ∀ {m : Nat} {a b : D} {j : Nat}, Kd m a → Kd j b → Fit a b → Fit b a → D.eqv a b = true
  | m, a, b, j, ka, kb, p, q => by
    rcases ka.cas with h | ⟨m', nm, as, em, ea, hn, k1, _, a1⟩
    · have e : ∃ s, a = .str s := by rcases h with e | e <;> exact ⟨_, e⟩
      obtain ⟨s, e⟩ := e
      subst e
      rw [p.str_l]
      unfold D.eqv
      exact decide_eq_true rfl
    · subst em ea
      rcases kb.cas with h | ⟨j', nb, bs, ej, eb, hm, k2, _, a2⟩
      · have e : ∃ s, b = .str s := by rcases h with e | e <;> exact ⟨_, e⟩
        obtain ⟨s, e⟩ := e
        subst e
        cases p.str_r
      · subst ej eb
        have en := p.make
        subst en
        have key : (∀ n x, look as n = some x → ∃ y, look bs n = some y ∧ Fit x y ∧ Fit y x) ∧ ∀ n y, look bs n = some y → (look as n).isSome = true := by
          rcases hn with e | ⟨e, _⟩
          · subst e
            refine ⟨fun n x hx => ?_, fun n y hy => ?_⟩
            · obtain ⟨y, h1, f1⟩ := q.look_rcd hx
              obtain ⟨x', h2, f2⟩ := p.look_rcd h1
              rw [hx] at h2
              cases h2
              exact ⟨y, h1, f2, f1⟩
            · obtain ⟨x', h2, f2⟩ := p.look_rcd hy
              rw [h2]; rfl
          · subst e
            refine ⟨fun n x hx => ?_, fun n y hy => ?_⟩
            · obtain ⟨y, h1, f1⟩ := p.look_cho hx
              obtain ⟨x', h2, f2⟩ := q.look_cho h1
              rw [hx] at h2
              cases h2
              exact ⟨y, h1, f1, f2⟩
            · obtain ⟨x', h2, f2⟩ := q.look_cho hy
              rw [h2]; rfl
        have l1 := keys_sub k1 fun n x hx => by obtain ⟨y, h1, _⟩ := key.1 n x hx; rw [h1]; rfl
        have l2 := keys_sub k2 key.2
        rw [eqv_pair, decide_eq_true rfl, Bool.true_and, Bool.and_eq_true, beq_iff_eq]
        refine ⟨Nat.le_antisymm l1 l2, eqvD_iff.mpr fun z hz => ?_⟩
        have hx := look_keys k1 (k := z.1) (v := z.2) hz
        obtain ⟨y, h1, f1, f2⟩ := key.1 _ _ hx
        exact ⟨y, h1, eqv_fit (a1 _ hz) (a2 _ (lookQ_mem h1)) f1 f2⟩
theorem Lub.eqv {m j : Nat} {a b k l : D} (h : Lub a b k) (q : Lub a b l) (hk : Kd m k) (hl : Kd j l) : D.eqv k l = true := eqv_fit hk hl (h.least l q.l q.r) (q.least k h.l h.r)

/-! ### errors, step by step -/
theorem fin_exc {c : Str} {e : En} : (Out.exc c e).fin = .exc c := rfl
theorem out_exc {a : Type} {c : Str} {e : En} {f : a → Out} : (Rs.exc c : Rs a).out e f = .exc c e := rfl
def tryR (call : Nat → List RV → Rs RV) (sub : Sub) (o : Out) (hs : Hs) : Out :=
  match o with
  | .exc c e' => if sub c c = true then evHs call sub e' c hs else .stuck
  | o => o
section
variable {call : Nat → List RV → Rs RV} {sub : Sub} {e : En}
theorem s_tryy {b : S} {hs : Hs} : evS call sub e (.tryy b hs) = tryR call sub (evS call sub e b) hs := by
  conv => lhs; unfold evS
  unfold tryR
  first | done | rfl
theorem tr_nx {hs : Hs} : tryR call sub (.nx e) hs = .nx e := rfl
theorem tr_ret {hs : Hs} {r : RV} : tryR call sub (.ret r) hs = .ret r := rfl
theorem tr_exc {hs : Hs} {c : Str} (h : sub c c = true) : tryR call sub (.exc c e) hs = evHs call sub e c hs := by
  show (if sub c c = true then evHs call sub e c hs else .stuck) = _
  rw [if_pos h]
/-- a clause's suite -/
def suR : Out → Out
  | .exc _ _ => .stuck
  | o => o
theorem h_nil {c : Str} : evHs call sub e c .nil = .exc c e := by unfold evHs; rfl
theorem h_yes {c c1 : Str} {b : Ss} {r : Hs} (h : sub c c1 = true) : evHs call sub e c (.cons c1 b r) = suR (evSs call sub e b) := by
  conv => lhs; unfold evHs
  rw [if_pos h]
  unfold suR
  first | done | rfl
theorem h_no {c c1 : Str} {b : Ss} {r : Hs} (h : sub c c1 = false) : evHs call sub e c (.cons c1 b r) = evHs call sub e c r := by
  conv => lhs; unfold evHs
  rw [if_neg (by rw [h]; decide)]
theorem su_nx : suR (.nx e) = .nx e := rfl
theorem su_ret {r : RV} : suR (.ret r) = .ret r := rfl
def asR (i : Nat) : Out → Out
  | .nx e2 => .nx (e2.set i .no)
  | .exc _ _ => .stuck
  | o => o
def tryA (call : Nat → List RV → Rs RV) (sub : Sub) (o : Out) (c : Str) (i : Nat) (h : Ss) : Out :=
  match o with
  | .exc c' e' => if sub c' c' = true then (if sub c' c = true then asR i (evSs call sub (e'.set i (.err c')) h) else .exc c' e') else .stuck
  | o => o
theorem s_tryAs {b : S} {c : Str} {i : Nat} {h : Ss} : evS call sub e (.tryAs b c i h) = tryA call sub (evS call sub e b) c i h := by
  conv => lhs; unfold evS
  unfold tryA asR
  first | done | rfl
theorem ta_nx {c : Str} {i : Nat} {h : Ss} : tryA call sub (.nx e) c i h = .nx e := rfl
theorem ta_ret {r : RV} {c : Str} {i : Nat} {h : Ss} : tryA call sub (.ret r) c i h = .ret r := rfl
theorem ta_exc {c c' : Str} {i : Nat} {h : Ss} (h1 : sub c' c' = true) (h2 : sub c' c = true) : tryA call sub (.exc c' e) c i h = asR i (evSs call sub (e.set i (.err c')) h) := by
  show (if sub c' c' = true then (if sub c' c = true then asR i (evSs call sub (e.set i (.err c')) h) else .exc c' e) else .stuck) = _
  rw [if_pos h1, if_pos h2]
theorem as_nx {i : Nat} : asR i (.nx e) = .nx (e.set i .no) := rfl
theorem as_ret {i : Nat} {r : RV} : asR i (.ret r) = .ret r := rfl
def errR (sub : Sub) (c : Str) : Option Cel → Rs RV
  | some (.err c') => .ok (.val (.bl (sub c' c)))
  | _ => .stuck
theorem x_isE {i : Nat} {c : Str} : evX call sub e (.isE i c) = errR sub c e[i]? := by
  unfold evX errR
  rfl
theorem e_err {c c' : Str} : errR sub c (some (.err c')) = .ok (.val (.bl (sub c' c))) := rfl
/-- a loop that may end in an error -/
theorem for_exc {tg : List Nat} {it : It} {b : Ss} {its : List D} (h : evIt call sub e it = .ok its) (I : Nat → En → Prop) (P : Str → Prop) (h0 : I 0 (lendE it e)) (hs : ∀ (i : Nat) (d : D) (e1 : En), its[i]? = some d → I i e1 → ∃ e2, setT tg d e1 = .ok e2 ∧ ((∃ e3, evSs call sub e2 b = .nx e3 ∧ I (i + 1) e3) ∨ ∃ c e3, evSs call sub e2 b = .exc c e3 ∧ P c)) :
    (∃ e', evS call sub e (.forr tg it b) = .nx (backE e e') ∧ I its.length e') ∨ ∃ c e', evS call sub e (.forr tg it b) = .exc c e' ∧ P c := by
  have go : ∀ (its : List D) (k : Nat) (e1 : En), I k e1 → (∀ (i : Nat) (d : D) (e1 : En), its[i]? = some d → I (k + i) e1 → ∃ e2, setT tg d e1 = .ok e2 ∧ ((∃ e3, evSs call sub e2 b = .nx e3 ∧ I (k + i + 1) e3) ∨ ∃ c e3, evSs call sub e2 b = .exc c e3 ∧ P c)) →
      (∃ e2, loopF (fun d e' => (setT tg d e').out e' fun e2 => evSs call sub e2 b) its e1 = .nx e2 ∧ I (k + its.length) e2) ∨ ∃ c e2, loopF (fun d e' => (setT tg d e').out e' fun e2 => evSs call sub e2 b) its e1 = .exc c e2 ∧ P c := by
    intro its
    induction its with
    | nil => intro k e1 h _; exact .inl ⟨e1, rfl, h⟩
    | cons d r ih =>
      intro k e1 hI hs
      obtain ⟨e2, q1, q2⟩ := hs 0 d e1 rfl hI
      rcases q2 with ⟨e3, q2, q3⟩ | ⟨c, e3, q2, q3⟩
      · have st : ((setT tg d e1).out e1 fun e2 => evSs call sub e2 b) = .nx e3 := by rw [q1]; exact q2
        rcases ih (k + 1) e3 q3 (fun i x e4 hx hi => by
          have q := hs (i + 1) x e4 (by simpa using hx) (by rw [show k + (i + 1) = k + 1 + i by omega]; exact hi)
          rw [show k + (i + 1) + 1 = k + 1 + i + 1 by omega] at q
          exact q) with ⟨e4, k1, k2⟩ | ⟨c, e4, k1, k2⟩
        · refine .inl ⟨e4, ?_, by rw [show k + (d :: r).length = k + 1 + r.length by rw [List.length_cons]; omega]; exact k2⟩
          unfold loopF
          rw [st]
          exact k1
        · refine .inr ⟨c, e4, ?_, k2⟩
          unfold loopF
          rw [st]
          exact k1
      · have st : ((setT tg d e1).out e1 fun e2 => evSs call sub e2 b) = .exc c e3 := by rw [q1]; exact q2
        refine .inr ⟨c, e3, ?_, q3⟩
        unfold loopF
        rw [st]
  rcases go its 0 (lendE it e) h0 (fun i d e1 hd hi => by
    rw [Nat.zero_add] at hi ⊢
    exact hs i d e1 hd hi) with ⟨e', k1, k2⟩ | ⟨c, e', k1, k2⟩
  · rw [Nat.zero_add] at k2
    refine .inl ⟨e', ?_, k2⟩
    rw [s_for, h]
    show (loopF _ its (lendE it e)).back e = _
    rw [k1]
    rfl
  · refine .inr ⟨c, backE e e', ?_, k2⟩
    rw [s_for, h]
    show (loopF _ its (lendE it e)).back e = _
    rw [k1]
    rfl
end
/-! ### a loop over a dict's names: what is done so far -/
def Seen (ks : List (Str × D)) (i : Nat) (n : Str) : Prop := ∃ (q : Nat) (p : Str × D), q < i ∧ ks[q]? = some p ∧ p.1 = n
theorem seen_zero {ks : List (Str × D)} {n : Str} : ¬ Seen ks 0 n := fun ⟨_, _, h, _⟩ => absurd h (Nat.not_lt_zero _)
theorem seen_succ {ks : List (Str × D)} {i : Nat} {p : Str × D} (hq : ks[i]? = some p) {n : Str} : Seen ks (i + 1) n ↔ Seen ks i n ∨ n = p.1 := by
  constructor
  · rintro ⟨q, p', h1, h2, h3⟩
    by_cases e : q = i
    · subst e
      rw [hq] at h2
      cases h2
      exact .inr h3.symm
    · exact .inl ⟨q, p', by omega, h2, h3⟩
  · rintro (⟨q, p', h1, h2, h3⟩ | h)
    · exact ⟨q, p', by omega, h2, h3⟩
    · exact ⟨i, p, Nat.lt_succ_self i, hq, h.symm⟩
theorem seen_full {ks : List (Str × D)} {n : Str} : Seen ks ks.length n ↔ ∃ d, look ks n = some d := by
  constructor
  · rintro ⟨q, p, _, h2, h3⟩
    rw [← h3]
    exact key_look (List.mem_of_getElem? h2)
  · rintro ⟨d, h⟩
    obtain ⟨q, hq, e⟩ := List.getElem_of_mem (lookQ_mem h)
    exact ⟨q, (n, d), hq, by rw [← e]; exact List.getElem?_eq_getElem hq, rfl⟩
theorem keys_ix : ∀ {ks : List (Str × D)}, Keys ks → ∀ {i j : Nat} {p q : Str × D}, ks[i]? = some p → ks[j]? = some q → p.1 = q.1 → i = j
  | [], _, i, j, p, q, h, _, _ => by simp at h
  | z :: r, k, i, j, p, q, h1, h2, e => by
    unfold Keys at k
    rw [List.map_cons, List.nodup_cons] at k
    cases i with
    | zero =>
      cases j with
      | zero => rfl
      | succ j =>
        exfalso
        have h1 : some z = some p := h1
        cases h1
        have h2 : r[j]? = some q := h2
        exact k.1 (List.mem_map.mpr ⟨q, List.mem_of_getElem? h2, e.symm⟩)
    | succ i =>
      cases j with
      | zero =>
        exfalso
        have h2 : some z = some q := h2
        cases h2
        have h1 : r[i]? = some p := h1
        exact k.1 (List.mem_map.mpr ⟨p, List.mem_of_getElem? h1, e⟩)
      | succ j => rw [keys_ix (ks := r) k.2 (i := i) (j := j) h1 h2 e]
theorem seen_fresh {ks : List (Str × D)} (k : Keys ks) {i : Nat} {p : Str × D} (hq : ks[i]? = some p) : ¬ Seen ks i p.1 := fun ⟨q, p', h1, h2, h3⟩ => by
  have e := keys_ix k h2 hq h3
  omega
/-- C holds of the names that were seen, the others are as at first -/
def Done (C : Str → Option D → Prop) (base : Str → Option D) (ks : List (Str × D)) (i : Nat) (fs : List (Str × D)) : Prop := ∀ n, (Seen ks i n → C n (look fs n)) ∧ (¬ Seen ks i n → look fs n = base n)
theorem Done.step {C : Str → Option D → Prop} {base : Str → Option D} {ks fs fs' : List (Str × D)} {i : Nat} {p : Str × D} (h : Done C base ks i fs) (hq : ks[i]? = some p) (h1 : ∀ n, n ≠ p.1 → look fs' n = look fs n) (h2 : C p.1 (look fs' p.1)) : Done C base ks (i + 1) fs' := fun n => by
  by_cases e : n = p.1
  · subst e
    exact ⟨fun _ => h2, fun z => absurd ((seen_succ hq).mpr (.inr rfl)) z⟩
  · rw [h1 n e]
    refine ⟨fun z => ?_, fun z => (h n).2 fun w => z ((seen_succ hq).mpr (.inl w))⟩
    rcases (seen_succ hq).mp z with z | z
    · exact (h n).1 z
    · exact absurd z e
theorem notN_non : cmpop .notN .non .non = .ok (.val (.bl false)) := rfl
theorem notN_kd {m : Nat} {d : D} (h : Kd m d) : cmpop .notN d .non = .ok (.val (.bl true)) := by
  cases h <;> rfl
end Ev
set_option Elab.async false
set_option linter.all false
set_option maxRecDepth 100000
set_option maxHeartbeats 4000000
set_option autoImplicit false
/-! reckoned: what a tree comes to, construct by construct. -/
namespace Ev
open PySem L2
theorem w_num_num : decide (("num" : Str) = "num") = true := by decide +kernel
theorem w_num_truth : decide (("num" : Str) = "truth") = false := by decide +kernel
theorem w_num_name : decide (("num" : Str) = "name") = false := by decide +kernel
theorem w_num_add : decide (("num" : Str) = "add") = false := by decide +kernel
theorem w_num_take : decide (("num" : Str) = "take") = false := by decide +kernel
theorem w_num_part : decide (("num" : Str) = "part") = false := by decide +kernel
theorem w_num_less : decide (("num" : Str) = "less") = false := by decide +kernel
theorem w_num_let : decide (("num" : Str) = "let") = false := by decide +kernel
theorem w_num_if : decide (("num" : Str) = "if") = false := by decide +kernel
theorem w_num_record : decide (("num" : Str) = "record") = false := by decide +kernel
theorem w_num_field : decide (("num" : Str) = "field") = false := by decide +kernel
theorem w_num_with : decide (("num" : Str) = "with") = false := by decide +kernel
theorem w_num_choice : decide (("num" : Str) = "choice") = false := by decide +kernel
theorem w_num_case : decide (("num" : Str) = "case") = false := by decide +kernel
theorem w_num_again : decide (("num" : Str) = "again") = false := by decide +kernel
theorem w_truth_num : decide (("truth" : Str) = "num") = false := by decide +kernel
theorem w_truth_truth : decide (("truth" : Str) = "truth") = true := by decide +kernel
theorem w_truth_name : decide (("truth" : Str) = "name") = false := by decide +kernel
theorem w_truth_add : decide (("truth" : Str) = "add") = false := by decide +kernel
theorem w_truth_take : decide (("truth" : Str) = "take") = false := by decide +kernel
theorem w_truth_part : decide (("truth" : Str) = "part") = false := by decide +kernel
theorem w_truth_less : decide (("truth" : Str) = "less") = false := by decide +kernel
theorem w_truth_let : decide (("truth" : Str) = "let") = false := by decide +kernel
theorem w_truth_if : decide (("truth" : Str) = "if") = false := by decide +kernel
theorem w_truth_record : decide (("truth" : Str) = "record") = false := by decide +kernel
theorem w_truth_field : decide (("truth" : Str) = "field") = false := by decide +kernel
theorem w_truth_with : decide (("truth" : Str) = "with") = false := by decide +kernel
theorem w_truth_choice : decide (("truth" : Str) = "choice") = false := by decide +kernel
theorem w_truth_case : decide (("truth" : Str) = "case") = false := by decide +kernel
theorem w_truth_again : decide (("truth" : Str) = "again") = false := by decide +kernel
theorem w_name_num : decide (("name" : Str) = "num") = false := by decide +kernel
theorem w_name_truth : decide (("name" : Str) = "truth") = false := by decide +kernel
theorem w_name_name : decide (("name" : Str) = "name") = true := by decide +kernel
theorem w_name_add : decide (("name" : Str) = "add") = false := by decide +kernel
theorem w_name_take : decide (("name" : Str) = "take") = false := by decide +kernel
theorem w_name_part : decide (("name" : Str) = "part") = false := by decide +kernel
theorem w_name_less : decide (("name" : Str) = "less") = false := by decide +kernel
theorem w_name_let : decide (("name" : Str) = "let") = false := by decide +kernel
theorem w_name_if : decide (("name" : Str) = "if") = false := by decide +kernel
theorem w_name_record : decide (("name" : Str) = "record") = false := by decide +kernel
theorem w_name_field : decide (("name" : Str) = "field") = false := by decide +kernel
theorem w_name_with : decide (("name" : Str) = "with") = false := by decide +kernel
theorem w_name_choice : decide (("name" : Str) = "choice") = false := by decide +kernel
theorem w_name_case : decide (("name" : Str) = "case") = false := by decide +kernel
theorem w_name_again : decide (("name" : Str) = "again") = false := by decide +kernel
theorem w_add_num : decide (("add" : Str) = "num") = false := by decide +kernel
theorem w_add_truth : decide (("add" : Str) = "truth") = false := by decide +kernel
theorem w_add_name : decide (("add" : Str) = "name") = false := by decide +kernel
theorem w_add_add : decide (("add" : Str) = "add") = true := by decide +kernel
theorem w_add_take : decide (("add" : Str) = "take") = false := by decide +kernel
theorem w_add_part : decide (("add" : Str) = "part") = false := by decide +kernel
theorem w_add_less : decide (("add" : Str) = "less") = false := by decide +kernel
theorem w_add_let : decide (("add" : Str) = "let") = false := by decide +kernel
theorem w_add_if : decide (("add" : Str) = "if") = false := by decide +kernel
theorem w_add_record : decide (("add" : Str) = "record") = false := by decide +kernel
theorem w_add_field : decide (("add" : Str) = "field") = false := by decide +kernel
theorem w_add_with : decide (("add" : Str) = "with") = false := by decide +kernel
theorem w_add_choice : decide (("add" : Str) = "choice") = false := by decide +kernel
theorem w_add_case : decide (("add" : Str) = "case") = false := by decide +kernel
theorem w_add_again : decide (("add" : Str) = "again") = false := by decide +kernel
theorem w_take_num : decide (("take" : Str) = "num") = false := by decide +kernel
theorem w_take_truth : decide (("take" : Str) = "truth") = false := by decide +kernel
theorem w_take_name : decide (("take" : Str) = "name") = false := by decide +kernel
theorem w_take_add : decide (("take" : Str) = "add") = false := by decide +kernel
theorem w_take_take : decide (("take" : Str) = "take") = true := by decide +kernel
theorem w_take_part : decide (("take" : Str) = "part") = false := by decide +kernel
theorem w_take_less : decide (("take" : Str) = "less") = false := by decide +kernel
theorem w_take_let : decide (("take" : Str) = "let") = false := by decide +kernel
theorem w_take_if : decide (("take" : Str) = "if") = false := by decide +kernel
theorem w_take_record : decide (("take" : Str) = "record") = false := by decide +kernel
theorem w_take_field : decide (("take" : Str) = "field") = false := by decide +kernel
theorem w_take_with : decide (("take" : Str) = "with") = false := by decide +kernel
theorem w_take_choice : decide (("take" : Str) = "choice") = false := by decide +kernel
theorem w_take_case : decide (("take" : Str) = "case") = false := by decide +kernel
theorem w_take_again : decide (("take" : Str) = "again") = false := by decide +kernel
theorem w_part_num : decide (("part" : Str) = "num") = false := by decide +kernel
theorem w_part_truth : decide (("part" : Str) = "truth") = false := by decide +kernel
theorem w_part_name : decide (("part" : Str) = "name") = false := by decide +kernel
theorem w_part_add : decide (("part" : Str) = "add") = false := by decide +kernel
theorem w_part_take : decide (("part" : Str) = "take") = false := by decide +kernel
theorem w_part_part : decide (("part" : Str) = "part") = true := by decide +kernel
theorem w_part_less : decide (("part" : Str) = "less") = false := by decide +kernel
theorem w_part_let : decide (("part" : Str) = "let") = false := by decide +kernel
theorem w_part_if : decide (("part" : Str) = "if") = false := by decide +kernel
theorem w_part_record : decide (("part" : Str) = "record") = false := by decide +kernel
theorem w_part_field : decide (("part" : Str) = "field") = false := by decide +kernel
theorem w_part_with : decide (("part" : Str) = "with") = false := by decide +kernel
theorem w_part_choice : decide (("part" : Str) = "choice") = false := by decide +kernel
theorem w_part_case : decide (("part" : Str) = "case") = false := by decide +kernel
theorem w_part_again : decide (("part" : Str) = "again") = false := by decide +kernel
theorem w_less_num : decide (("less" : Str) = "num") = false := by decide +kernel
theorem w_less_truth : decide (("less" : Str) = "truth") = false := by decide +kernel
theorem w_less_name : decide (("less" : Str) = "name") = false := by decide +kernel
theorem w_less_add : decide (("less" : Str) = "add") = false := by decide +kernel
theorem w_less_take : decide (("less" : Str) = "take") = false := by decide +kernel
theorem w_less_part : decide (("less" : Str) = "part") = false := by decide +kernel
theorem w_less_less : decide (("less" : Str) = "less") = true := by decide +kernel
theorem w_less_let : decide (("less" : Str) = "let") = false := by decide +kernel
theorem w_less_if : decide (("less" : Str) = "if") = false := by decide +kernel
theorem w_less_record : decide (("less" : Str) = "record") = false := by decide +kernel
theorem w_less_field : decide (("less" : Str) = "field") = false := by decide +kernel
theorem w_less_with : decide (("less" : Str) = "with") = false := by decide +kernel
theorem w_less_choice : decide (("less" : Str) = "choice") = false := by decide +kernel
theorem w_less_case : decide (("less" : Str) = "case") = false := by decide +kernel
theorem w_less_again : decide (("less" : Str) = "again") = false := by decide +kernel
theorem w_let_num : decide (("let" : Str) = "num") = false := by decide +kernel
theorem w_let_truth : decide (("let" : Str) = "truth") = false := by decide +kernel
theorem w_let_name : decide (("let" : Str) = "name") = false := by decide +kernel
theorem w_let_add : decide (("let" : Str) = "add") = false := by decide +kernel
theorem w_let_take : decide (("let" : Str) = "take") = false := by decide +kernel
theorem w_let_part : decide (("let" : Str) = "part") = false := by decide +kernel
theorem w_let_less : decide (("let" : Str) = "less") = false := by decide +kernel
theorem w_let_let : decide (("let" : Str) = "let") = true := by decide +kernel
theorem w_let_if : decide (("let" : Str) = "if") = false := by decide +kernel
theorem w_let_record : decide (("let" : Str) = "record") = false := by decide +kernel
theorem w_let_field : decide (("let" : Str) = "field") = false := by decide +kernel
theorem w_let_with : decide (("let" : Str) = "with") = false := by decide +kernel
theorem w_let_choice : decide (("let" : Str) = "choice") = false := by decide +kernel
theorem w_let_case : decide (("let" : Str) = "case") = false := by decide +kernel
theorem w_let_again : decide (("let" : Str) = "again") = false := by decide +kernel
theorem w_if_num : decide (("if" : Str) = "num") = false := by decide +kernel
theorem w_if_truth : decide (("if" : Str) = "truth") = false := by decide +kernel
theorem w_if_name : decide (("if" : Str) = "name") = false := by decide +kernel
theorem w_if_add : decide (("if" : Str) = "add") = false := by decide +kernel
theorem w_if_take : decide (("if" : Str) = "take") = false := by decide +kernel
theorem w_if_part : decide (("if" : Str) = "part") = false := by decide +kernel
theorem w_if_less : decide (("if" : Str) = "less") = false := by decide +kernel
theorem w_if_let : decide (("if" : Str) = "let") = false := by decide +kernel
theorem w_if_if : decide (("if" : Str) = "if") = true := by decide +kernel
theorem w_if_record : decide (("if" : Str) = "record") = false := by decide +kernel
theorem w_if_field : decide (("if" : Str) = "field") = false := by decide +kernel
theorem w_if_with : decide (("if" : Str) = "with") = false := by decide +kernel
theorem w_if_choice : decide (("if" : Str) = "choice") = false := by decide +kernel
theorem w_if_case : decide (("if" : Str) = "case") = false := by decide +kernel
theorem w_if_again : decide (("if" : Str) = "again") = false := by decide +kernel
theorem w_record_num : decide (("record" : Str) = "num") = false := by decide +kernel
theorem w_record_truth : decide (("record" : Str) = "truth") = false := by decide +kernel
theorem w_record_name : decide (("record" : Str) = "name") = false := by decide +kernel
theorem w_record_add : decide (("record" : Str) = "add") = false := by decide +kernel
theorem w_record_take : decide (("record" : Str) = "take") = false := by decide +kernel
theorem w_record_part : decide (("record" : Str) = "part") = false := by decide +kernel
theorem w_record_less : decide (("record" : Str) = "less") = false := by decide +kernel
theorem w_record_let : decide (("record" : Str) = "let") = false := by decide +kernel
theorem w_record_if : decide (("record" : Str) = "if") = false := by decide +kernel
theorem w_record_record : decide (("record" : Str) = "record") = true := by decide +kernel
theorem w_record_field : decide (("record" : Str) = "field") = false := by decide +kernel
theorem w_record_with : decide (("record" : Str) = "with") = false := by decide +kernel
theorem w_record_choice : decide (("record" : Str) = "choice") = false := by decide +kernel
theorem w_record_case : decide (("record" : Str) = "case") = false := by decide +kernel
theorem w_record_again : decide (("record" : Str) = "again") = false := by decide +kernel
theorem w_field_num : decide (("field" : Str) = "num") = false := by decide +kernel
theorem w_field_truth : decide (("field" : Str) = "truth") = false := by decide +kernel
theorem w_field_name : decide (("field" : Str) = "name") = false := by decide +kernel
theorem w_field_add : decide (("field" : Str) = "add") = false := by decide +kernel
theorem w_field_take : decide (("field" : Str) = "take") = false := by decide +kernel
theorem w_field_part : decide (("field" : Str) = "part") = false := by decide +kernel
theorem w_field_less : decide (("field" : Str) = "less") = false := by decide +kernel
theorem w_field_let : decide (("field" : Str) = "let") = false := by decide +kernel
theorem w_field_if : decide (("field" : Str) = "if") = false := by decide +kernel
theorem w_field_record : decide (("field" : Str) = "record") = false := by decide +kernel
theorem w_field_field : decide (("field" : Str) = "field") = true := by decide +kernel
theorem w_field_with : decide (("field" : Str) = "with") = false := by decide +kernel
theorem w_field_choice : decide (("field" : Str) = "choice") = false := by decide +kernel
theorem w_field_case : decide (("field" : Str) = "case") = false := by decide +kernel
theorem w_field_again : decide (("field" : Str) = "again") = false := by decide +kernel
theorem w_with_num : decide (("with" : Str) = "num") = false := by decide +kernel
theorem w_with_truth : decide (("with" : Str) = "truth") = false := by decide +kernel
theorem w_with_name : decide (("with" : Str) = "name") = false := by decide +kernel
theorem w_with_add : decide (("with" : Str) = "add") = false := by decide +kernel
theorem w_with_take : decide (("with" : Str) = "take") = false := by decide +kernel
theorem w_with_part : decide (("with" : Str) = "part") = false := by decide +kernel
theorem w_with_less : decide (("with" : Str) = "less") = false := by decide +kernel
theorem w_with_let : decide (("with" : Str) = "let") = false := by decide +kernel
theorem w_with_if : decide (("with" : Str) = "if") = false := by decide +kernel
theorem w_with_record : decide (("with" : Str) = "record") = false := by decide +kernel
theorem w_with_field : decide (("with" : Str) = "field") = false := by decide +kernel
theorem w_with_with : decide (("with" : Str) = "with") = true := by decide +kernel
theorem w_with_choice : decide (("with" : Str) = "choice") = false := by decide +kernel
theorem w_with_case : decide (("with" : Str) = "case") = false := by decide +kernel
theorem w_with_again : decide (("with" : Str) = "again") = false := by decide +kernel
theorem w_choice_num : decide (("choice" : Str) = "num") = false := by decide +kernel
theorem w_choice_truth : decide (("choice" : Str) = "truth") = false := by decide +kernel
theorem w_choice_name : decide (("choice" : Str) = "name") = false := by decide +kernel
theorem w_choice_add : decide (("choice" : Str) = "add") = false := by decide +kernel
theorem w_choice_take : decide (("choice" : Str) = "take") = false := by decide +kernel
theorem w_choice_part : decide (("choice" : Str) = "part") = false := by decide +kernel
theorem w_choice_less : decide (("choice" : Str) = "less") = false := by decide +kernel
theorem w_choice_let : decide (("choice" : Str) = "let") = false := by decide +kernel
theorem w_choice_if : decide (("choice" : Str) = "if") = false := by decide +kernel
theorem w_choice_record : decide (("choice" : Str) = "record") = false := by decide +kernel
theorem w_choice_field : decide (("choice" : Str) = "field") = false := by decide +kernel
theorem w_choice_with : decide (("choice" : Str) = "with") = false := by decide +kernel
theorem w_choice_choice : decide (("choice" : Str) = "choice") = true := by decide +kernel
theorem w_choice_case : decide (("choice" : Str) = "case") = false := by decide +kernel
theorem w_choice_again : decide (("choice" : Str) = "again") = false := by decide +kernel
theorem w_case_num : decide (("case" : Str) = "num") = false := by decide +kernel
theorem w_case_truth : decide (("case" : Str) = "truth") = false := by decide +kernel
theorem w_case_name : decide (("case" : Str) = "name") = false := by decide +kernel
theorem w_case_add : decide (("case" : Str) = "add") = false := by decide +kernel
theorem w_case_take : decide (("case" : Str) = "take") = false := by decide +kernel
theorem w_case_part : decide (("case" : Str) = "part") = false := by decide +kernel
theorem w_case_less : decide (("case" : Str) = "less") = false := by decide +kernel
theorem w_case_let : decide (("case" : Str) = "let") = false := by decide +kernel
theorem w_case_if : decide (("case" : Str) = "if") = false := by decide +kernel
theorem w_case_record : decide (("case" : Str) = "record") = false := by decide +kernel
theorem w_case_field : decide (("case" : Str) = "field") = false := by decide +kernel
theorem w_case_with : decide (("case" : Str) = "with") = false := by decide +kernel
theorem w_case_choice : decide (("case" : Str) = "choice") = false := by decide +kernel
theorem w_case_case : decide (("case" : Str) = "case") = true := by decide +kernel
theorem w_case_again : decide (("case" : Str) = "again") = false := by decide +kernel
theorem w_again_num : decide (("again" : Str) = "num") = false := by decide +kernel
theorem w_again_truth : decide (("again" : Str) = "truth") = false := by decide +kernel
theorem w_again_name : decide (("again" : Str) = "name") = false := by decide +kernel
theorem w_again_add : decide (("again" : Str) = "add") = false := by decide +kernel
theorem w_again_take : decide (("again" : Str) = "take") = false := by decide +kernel
theorem w_again_part : decide (("again" : Str) = "part") = false := by decide +kernel
theorem w_again_less : decide (("again" : Str) = "less") = false := by decide +kernel
theorem w_again_let : decide (("again" : Str) = "let") = false := by decide +kernel
theorem w_again_if : decide (("again" : Str) = "if") = false := by decide +kernel
theorem w_again_record : decide (("again" : Str) = "record") = false := by decide +kernel
theorem w_again_field : decide (("again" : Str) = "field") = false := by decide +kernel
theorem w_again_with : decide (("again" : Str) = "with") = false := by decide +kernel
theorem w_again_choice : decide (("again" : Str) = "choice") = false := by decide +kernel
theorem w_again_case : decide (("again" : Str) = "case") = false := by decide +kernel
theorem w_again_again : decide (("again" : Str) = "again") = true := by decide +kernel
theorem w_call_num : decide (("call" : Str) = "num") = false := by decide +kernel
theorem w_call_truth : decide (("call" : Str) = "truth") = false := by decide +kernel
theorem w_call_name : decide (("call" : Str) = "name") = false := by decide +kernel
theorem w_call_add : decide (("call" : Str) = "add") = false := by decide +kernel
theorem w_call_take : decide (("call" : Str) = "take") = false := by decide +kernel
theorem w_call_part : decide (("call" : Str) = "part") = false := by decide +kernel
theorem w_call_less : decide (("call" : Str) = "less") = false := by decide +kernel
theorem w_call_let : decide (("call" : Str) = "let") = false := by decide +kernel
theorem w_call_if : decide (("call" : Str) = "if") = false := by decide +kernel
theorem w_call_record : decide (("call" : Str) = "record") = false := by decide +kernel
theorem w_call_field : decide (("call" : Str) = "field") = false := by decide +kernel
theorem w_call_with : decide (("call" : Str) = "with") = false := by decide +kernel
theorem w_call_choice : decide (("call" : Str) = "choice") = false := by decide +kernel
theorem w_call_case : decide (("call" : Str) = "case") = false := by decide +kernel
theorem w_call_again : decide (("call" : Str) = "again") = false := by decide +kernel

def F_reckoned (i_named : Nat) (i_reckoned : Nat) (i_value_of_again : Nat) (i_value_of_call : Nat) (i_value_of_case : Nat) (i_value_of_field : Nat) (i_value_of_if : Nat) (i_value_of_sum : Nat) (i_value_of_with : Nat) : Fn where
  name := ("reckoned" : Str)
  ps := [("deeds" : Str), ("names" : Str), ("tree" : Str)]
  N := [("deeds" : Str), ("names" : Str), ("tree" : Str), ("word" : Str), ("row" : Str)]
  body :=
    (.cons (.asg 3 (.sub (.var 2) (.cint 0)))
    (.cons (.ifs (.or (.cons (.cmp .eq (.var 3) (.cstr ("num" : Str))) (.cons (.cmp .eq (.var 3) (.cstr ("truth" : Str))) .nil))) (.cons (.ret (.sub (.var 2) (.cint 1)))
    .nil) .nil)
    (.cons (.ifs (.cmp .eq (.var 3) (.cstr ("name" : Str))) (.cons (.ifs (.cmp .notin (.sub (.var 2) (.cint 1)) (.var 1)) (.cons (.rais ("LostName" : Str))
    .nil) .nil)
    (.cons (.ret (.sub (.var 1) (.sub (.var 2) (.cint 1))))
    .nil)) .nil)
    (.cons (.ifs (.or (.cons (.cmp .eq (.var 3) (.cstr ("add" : Str))) (.cons (.cmp .eq (.var 3) (.cstr ("take" : Str))) (.cons (.cmp .eq (.var 3) (.cstr ("part" : Str))) (.cons (.cmp .eq (.var 3) (.cstr ("less" : Str))) .nil))))) (.cons (.ret (.call i_value_of_sum (.cons (.var 0) (.cons (.var 1) (.cons (.var 2) .nil)))))
    .nil) .nil)
    (.cons (.ifs (.cmp .eq (.var 3) (.cstr ("let" : Str))) (.cons (.ret (.call i_reckoned (.cons (.var 0) (.cons (.call i_named (.cons (.var 1) (.cons (.sub (.var 2) (.cint 1)) (.cons (.call i_reckoned (.cons (.var 0) (.cons (.var 1) (.cons (.sub (.var 2) (.cint 2)) .nil)))) .nil)))) (.cons (.sub (.var 2) (.cint 3)) .nil)))))
    .nil) .nil)
    (.cons (.ifs (.cmp .eq (.var 3) (.cstr ("if" : Str))) (.cons (.ret (.call i_value_of_if (.cons (.var 0) (.cons (.var 1) (.cons (.var 2) .nil)))))
    .nil) .nil)
    (.cons (.ifs (.cmp .eq (.var 3) (.cstr ("record" : Str))) (.cons (.ret (.bfn .dict1 (.cons (.comp (.tup (.cons (.sub (.var 4) (.cint 0)) (.cons (.call i_reckoned (.cons (.var 0) (.cons (.var 1) (.cons (.sub (.var 4) (.cint 1)) .nil)))) .nil))) [4] (.ex (.sub (.var 2) (.cint 1))) (.cbl true)) .nil)))
    .nil) .nil)
    (.cons (.ifs (.cmp .eq (.var 3) (.cstr ("field" : Str))) (.cons (.ret (.call i_value_of_field (.cons (.var 0) (.cons (.var 1) (.cons (.var 2) .nil)))))
    .nil) .nil)
    (.cons (.ifs (.cmp .eq (.var 3) (.cstr ("with" : Str))) (.cons (.ret (.call i_value_of_with (.cons (.var 0) (.cons (.var 1) (.cons (.var 2) .nil)))))
    .nil) .nil)
    (.cons (.ifs (.cmp .eq (.var 3) (.cstr ("choice" : Str))) (.cons (.ret (.tup (.cons (.sub (.var 2) (.cint 1)) (.cons (.call i_reckoned (.cons (.var 0) (.cons (.var 1) (.cons (.sub (.var 2) (.cint 2)) .nil)))) .nil))))
    .nil) .nil)
    (.cons (.ifs (.cmp .eq (.var 3) (.cstr ("case" : Str))) (.cons (.ret (.call i_value_of_case (.cons (.var 0) (.cons (.var 1) (.cons (.var 2) .nil)))))
    .nil) .nil)
    (.cons (.ifs (.cmp .eq (.var 3) (.cstr ("again" : Str))) (.cons (.ret (.call i_value_of_again (.cons (.var 0) (.cons (.var 1) (.cons (.var 2) .nil)))))
    .nil) .nil)
    (.cons (.ret (.call i_value_of_call (.cons (.var 0) (.cons (.var 1) (.cons (.var 2) .nil)))))
    .nil)))))))))))))
def F_named : Fn where
  name := ("named" : Str)
  ps := [("names" : Str), ("name" : Str), ("value" : Str)]
  N := [("names" : Str), ("name" : Str), ("value" : Str), ("fresh" : Str)]
  body :=
    (.cons (.asg 3 (.bfn .dict1 (.cons (.var 0) .nil)))
    (.cons (.setI 3 (.var 1) (.var 2))
    (.cons (.ret (.var 3))
    .nil)))
def F_value_of_sum (i_is_of : Nat) (i_reckoned : Nat) : Fn where
  name := ("value_of_sum" : Str)
  ps := [("deeds" : Str), ("names" : Str), ("tree" : Str)]
  N := [("deeds" : Str), ("names" : Str), ("tree" : Str), ("one" : Str), ("other" : Str), ("found" : Str)]
  body :=
    (.cons (.asg 3 (.call i_reckoned (.cons (.var 0) (.cons (.var 1) (.cons (.sub (.var 2) (.cint 1)) .nil)))))
    (.cons (.asg 4 (.call i_reckoned (.cons (.var 0) (.cons (.var 1) (.cons (.sub (.var 2) (.cint 2)) .nil)))))
    (.cons (.ifs (.or (.cons (.not (.call i_is_of (.cons (.var 3) (.cons (.cstr ("num" : Str)) .nil)))) (.cons (.not (.call i_is_of (.cons (.var 4) (.cons (.cstr ("num" : Str)) .nil)))) .nil))) (.cons (.rais ("Misfit" : Str))
    .nil) .nil)
    (.cons (.ifs (.cmp .eq (.sub (.var 2) (.cint 0)) (.cstr ("less" : Str))) (.cons (.ret (.cmp .lt (.var 3) (.var 4)))
    .nil) .nil)
    (.cons (.ifs (.and (.cons (.cmp .eq (.sub (.var 2) (.cint 0)) (.cstr ("part" : Str))) (.cons (.cmp .eq (.var 4) (.cint 0)) .nil))) (.cons (.rais ("ByNought" : Str))
    .nil) .nil)
    (.cons (.ifs (.cmp .eq (.sub (.var 2) (.cint 0)) (.cstr ("add" : Str))) (.cons (.asg 5 (.bin .add (.var 3) (.var 4)))
    .nil) (.cons (.ifs (.cmp .eq (.sub (.var 2) (.cint 0)) (.cstr ("take" : Str))) (.cons (.asg 5 (.bin .sub (.var 3) (.var 4)))
    .nil) (.cons (.asg 5 (.bin .fdiv (.var 3) (.var 4)))
    .nil))
    .nil))
    (.cons (.ifs (.cmp .gt (.bfn .abs (.cons (.var 5) .nil)) (.glob ("MOST" : Str) 1000000000000)) (.cons (.rais ("TooGreat" : Str))
    .nil) .nil)
    (.cons (.ret (.var 5))
    .nil))))))))
def F_value_of_if (i_reckoned : Nat) : Fn where
  name := ("value_of_if" : Str)
  ps := [("deeds" : Str), ("names" : Str), ("tree" : Str)]
  N := [("deeds" : Str), ("names" : Str), ("tree" : Str), ("test" : Str)]
  body :=
    (.cons (.asg 3 (.call i_reckoned (.cons (.var 0) (.cons (.var 1) (.cons (.sub (.var 2) (.cint 1)) .nil)))))
    (.cons (.ifs (.not (.isi (.var 3) [.bool])) (.cons (.rais ("Misfit" : Str))
    .nil) .nil)
    (.cons (.ifs (.var 3) (.cons (.ret (.call i_reckoned (.cons (.var 0) (.cons (.var 1) (.cons (.sub (.var 2) (.cint 2)) .nil)))))
    .nil) .nil)
    (.cons (.ret (.call i_reckoned (.cons (.var 0) (.cons (.var 1) (.cons (.sub (.var 2) (.cint 3)) .nil)))))
    .nil))))
def F_value_of_field (i_reckoned : Nat) : Fn where
  name := ("value_of_field" : Str)
  ps := [("deeds" : Str), ("names" : Str), ("tree" : Str)]
  N := [("deeds" : Str), ("names" : Str), ("tree" : Str), ("found" : Str)]
  body :=
    (.cons (.asg 3 (.call i_reckoned (.cons (.var 0) (.cons (.var 1) (.cons (.sub (.var 2) (.cint 1)) .nil)))))
    (.cons (.ifs (.not (.isi (.var 3) [.dict])) (.cons (.rais ("Misfit" : Str))
    .nil) .nil)
    (.cons (.ifs (.cmp .notin (.sub (.var 2) (.cint 2)) (.var 3)) (.cons (.rais ("LostField" : Str))
    .nil) .nil)
    (.cons (.ret (.sub (.var 3) (.sub (.var 2) (.cint 2))))
    .nil))))
def F_value_of_with (i_named : Nat) (i_reckoned : Nat) : Fn where
  name := ("value_of_with" : Str)
  ps := [("deeds" : Str), ("names" : Str), ("tree" : Str)]
  N := [("deeds" : Str), ("names" : Str), ("tree" : Str), ("found" : Str), ("put" : Str)]
  body :=
    (.cons (.asg 3 (.call i_reckoned (.cons (.var 0) (.cons (.var 1) (.cons (.sub (.var 2) (.cint 1)) .nil)))))
    (.cons (.asg 4 (.call i_reckoned (.cons (.var 0) (.cons (.var 1) (.cons (.sub (.var 2) (.cint 3)) .nil)))))
    (.cons (.ifs (.not (.isi (.var 3) [.dict])) (.cons (.rais ("Misfit" : Str))
    .nil) .nil)
    (.frz 4 (.cons (.ret (.call i_named (.cons (.var 3) (.cons (.sub (.var 2) (.cint 2)) (.cons (.var 4) .nil)))))
    .nil)))))
def B_value_of_case_0 (i_named : Nat) (i_reckoned : Nat) : Ss :=
    (.cons (.ifs (.cmp .eq (.sub (.var 4) (.cint 0)) (.sub (.var 3) (.cint 0))) (.cons (.ret (.call i_reckoned (.cons (.var 0) (.cons (.call i_named (.cons (.var 1) (.cons (.sub (.var 4) (.cint 1)) (.cons (.sub (.var 3) (.cint 1)) .nil)))) (.cons (.sub (.var 4) (.cint 2)) .nil)))))
    .nil) .nil)
    .nil)
def R_value_of_case_0 (i_named : Nat) (i_reckoned : Nat) : Ss :=
    (.cons (.rais ("LostShape" : Str))
    .nil)
def F_value_of_case (i_named : Nat) (i_reckoned : Nat) : Fn where
  name := ("value_of_case" : Str)
  ps := [("deeds" : Str), ("names" : Str), ("tree" : Str)]
  N := [("deeds" : Str), ("names" : Str), ("tree" : Str), ("found" : Str), ("row" : Str)]
  body :=
    (.cons (.asg 3 (.call i_reckoned (.cons (.var 0) (.cons (.var 1) (.cons (.sub (.var 2) (.cint 1)) .nil)))))
    (.cons (.ifs (.not (.isi (.var 3) [.tuple])) (.cons (.rais ("Misfit" : Str))
    .nil) .nil)
    (.cons (.forr [4] (.ex (.sub (.var 2) (.cint 2))) (B_value_of_case_0 i_named i_reckoned)) (R_value_of_case_0 i_named i_reckoned))))
def B_value_of_again_0 (i_named : Nat) (i_reckoned : Nat) : Ss :=
    (.frz 3 (.cons (.asg 3 (.call i_reckoned (.cons (.var 0) (.cons (.call i_named (.cons (.var 1) (.cons (.sub (.var 2) (.cint 2)) (.cons (.var 3) .nil)))) (.cons (.sub (.var 2) (.cint 4)) .nil)))))
    .nil))
def R_value_of_again_0 (i_named : Nat) (i_reckoned : Nat) : Ss :=
    (.cons (.ret (.var 3))
    .nil)
def F_value_of_again (i_named : Nat) (i_reckoned : Nat) : Fn where
  name := ("value_of_again" : Str)
  ps := [("deeds" : Str), ("names" : Str), ("tree" : Str)]
  N := [("deeds" : Str), ("names" : Str), ("tree" : Str), ("found" : Str), ("turn" : Str)]
  body :=
    (.cons (.asg 3 (.call i_reckoned (.cons (.var 0) (.cons (.var 1) (.cons (.sub (.var 2) (.cint 3)) .nil)))))
    (.cons (.forr [4] (.range (.sub (.var 2) (.cint 1))) (B_value_of_again_0 i_named i_reckoned)) (R_value_of_again_0 i_named i_reckoned)))
def B_place_of_0 : Ss :=
    (.cons (.ifs (.cmp .eq (.sub (.var 3) (.cint 0)) (.var 1)) (.cons (.ret (.var 2))
    .nil) .nil)
    .nil)
def R_place_of_0 : Ss :=
    (.cons (.rais ("LostName" : Str))
    .nil)
def F_place_of : Fn where
  name := ("place_of" : Str)
  ps := [("deeds" : Str), ("name" : Str)]
  N := [("deeds" : Str), ("name" : Str), ("place" : Str), ("deed" : Str)]
  body :=
    (.cons (.forr [2, 3] (.enum (.var 0)) (B_place_of_0)) (R_place_of_0))
def B_value_of_call_0 (i_place_of : Nat) (i_reckoned : Nat) : Ss :=
    (.cons (.setI 6 (.sub (.var 7) (.cint 0)) (.var 8))
    .nil)
def R_value_of_call_0 (i_place_of : Nat) (i_reckoned : Nat) : Ss :=
    (.cons (.ret (.call i_reckoned (.cons (.slc (.var 0) .cnon (.var 3)) (.cons (.var 6) (.cons (.sub (.sub (.var 0) (.var 3)) (.cint 2)) .nil)))))
    .nil)
def F_value_of_call (i_place_of : Nat) (i_reckoned : Nat) : Fn where
  name := ("value_of_call" : Str)
  ps := [("deeds" : Str), ("names" : Str), ("tree" : Str)]
  N := [("deeds" : Str), ("names" : Str), ("tree" : Str), ("place" : Str), ("values" : Str), ("params" : Str), ("inner" : Str), ("param" : Str), ("value" : Str), ("arg" : Str)]
  body :=
    (.cons (.asg 3 (.call i_place_of (.cons (.var 0) (.cons (.sub (.var 2) (.cint 1)) .nil))))
    (.cons (.asg 4 (.comp (.call i_reckoned (.cons (.var 0) (.cons (.var 1) (.cons (.var 9) .nil)))) [9] (.ex (.sub (.var 2) (.cint 2))) (.cbl true)))
    (.cons (.asg 5 (.sub (.sub (.var 0) (.var 3)) (.cint 1)))
    (.cons (.ifs (.cmp .ne (.bfn .len (.cons (.var 4) .nil)) (.bfn .len (.cons (.var 5) .nil))) (.cons (.rais ("Misfit" : Str))
    .nil) .nil)
    (.cons (.asg 6 (.dct .nil))
    (.frz 4 (.frz 5 (.cons (.forr [7, 8] (.zip (.var 5) (.var 4)) (B_value_of_call_0 i_place_of i_reckoned)) (R_value_of_call_0 i_place_of i_reckoned)))))))))

theorem s2_0 {a b : D} : subop (.tup [a, b]) (.int 0) = .ok (.val a) := rfl
theorem s2_1 {a b : D} : subop (.tup [a, b]) (.int 1) = .ok (.val b) := rfl
theorem s3_0 {a b c : D} : subop (.tup [a, b, c]) (.int 0) = .ok (.val a) := rfl
theorem s3_1 {a b c : D} : subop (.tup [a, b, c]) (.int 1) = .ok (.val b) := rfl
theorem s3_2 {a b c : D} : subop (.tup [a, b, c]) (.int 2) = .ok (.val c) := rfl
theorem s4_0 {a b c d : D} : subop (.tup [a, b, c, d]) (.int 0) = .ok (.val a) := rfl
theorem s4_1 {a b c d : D} : subop (.tup [a, b, c, d]) (.int 1) = .ok (.val b) := rfl
theorem s4_2 {a b c d : D} : subop (.tup [a, b, c, d]) (.int 2) = .ok (.val c) := rfl
theorem s4_3 {a b c d : D} : subop (.tup [a, b, c, d]) (.int 3) = .ok (.val d) := rfl
theorem s5_0 {a b c d e : D} : subop (.tup [a, b, c, d, e]) (.int 0) = .ok (.val a) := rfl
theorem s5_1 {a b c d e : D} : subop (.tup [a, b, c, d, e]) (.int 1) = .ok (.val b) := rfl
theorem s5_2 {a b c d e : D} : subop (.tup [a, b, c, d, e]) (.int 2) = .ok (.val c) := rfl
theorem s5_3 {a b c d e : D} : subop (.tup [a, b, c, d, e]) (.int 3) = .ok (.val d) := rfl
theorem s5_4 {a b c d e : D} : subop (.tup [a, b, c, d, e]) (.int 4) = .ok (.val e) := rfl
/-- a value that is handed over is held -/
def RV.nrm : RV → RV
  | .own d => .val d
  | r => r
theorem startE_nrm (n : Nat) (args : List RV) : startE n (args.map RV.nrm) = startE n args := by
  unfold startE
  rw [List.length_map, List.map_map]
  congr 1
  refine List.map_congr_left fun r _ => ?_
  cases r <;> rfl
theorem call_nrm (T : Tab) : ∀ (n f : Nat) (args : List RV), callN T n f (args.map RV.nrm) = callN T n f args
  | 0, f, args => rfl
  | n + 1, f, args => by
    unfold callN
    simp only [startE_nrm, List.length_map]
theorem call_own2 {T : Tab} {n f : Nat} {a c : D} {d : D} : callN T n f [.val a, .own d, .val c] = callN T n f [.val a, .val d, .val c] := (call_nrm T n f [.val a, .own d, .val c]).symm
theorem call_bo2 {T : Tab} {n f : Nat} {a c : D} {d : D} {r : RV} (h : r = .val d ∨ r = .own d) : callN T n f [.val a, r, .val c] = callN T n f [.val a, .val d, .val c] := by
  rcases h with e | e
  · rw [e]
  · rw [e]; exact call_own2
/-- not lent -/
def NB (o : Rs RV) : Prop := ∀ d, o ≠ .ok (.bor d)
section
variable {call : Nat → List RV → Rs RV} {sub : Sub} {e : En}
theorem q_retout {z : Rs RV} {r : Ss} : runSs call sub (z.out e fun r => .ret r) r = z.out e fun r => .ret r := by cases z <;> rfl
theorem q_retout2 {z : Rs RV} {x : X} {r : Ss} : runSs call sub ((z.bind (retR e x)).out e fun r => .ret r) r = (z.bind (retR e x)).out e fun r => .ret r := by cases (z.bind (retR e x)) <;> rfl
theorem fin_pass {z : Rs RV} {x : X} (h : NB z) : ((z.bind (retR e x)).out e fun r => .ret r).fin = z := by
  cases z with
  | stuck => rfl
  | exc c => rfl
  | ok r =>
    cases r with
    | val d => rfl
    | own d => rfl
    | bor d => exact absurd rfl (h d)
end
/-- an end that is as told -/
def RkO (o : Rs RV) (res : Rs D) : Prop := match res with
  | .ok v => o = .ok (.val v) ∨ ∃ ks, v = .dct ks ∧ o = .ok (.own v)
  | .exc c => o = .exc c
  | .stuck => False
theorem RkO.two {o : Rs RV} {v : D} (h : RkO o (.ok v)) : ∃ r, o = .ok r ∧ (r = .val v ∨ r = .own v) := by
  rcases h with h | ⟨ks, e, h⟩
  · exact ⟨_, h, .inl rfl⟩
  · exact ⟨_, h, .inr rfl⟩
theorem RkO.plain {o : Rs RV} {v : D} (n : ∀ ks, v ≠ .dct ks) (h : RkO o (.ok v)) : o = .ok (.val v) := by
  rcases h with h | ⟨ks, e, h⟩
  · exact h
  · exact absurd e (n ks)
theorem RkO.of {o : Rs RV} {r : RV} {ks : List (Str × D)} (h : o = .ok r) (hr : r = .val (.dct ks) ∨ r = .own (.dct ks)) : RkO o (.ok (.dct ks)) := by
  rcases hr with e | e
  · exact .inl (by rw [h, e])
  · exact .inr ⟨ks, rfl, by rw [h, e]⟩
theorem RkO.nb {o : Rs RV} {res : Rs D} (h : RkO o res) : NB o := fun d e => by
  cases res with
  | ok v => rcases h with h | ⟨_, _, h⟩ <;> (rw [h] at e; cases e)
  | exc c => rw [show o = .exc c from h] at e; cases e
  | stuck => exact h
structure RkT (T : Tab) (io r nm sm if_ fl wi ca ag po cl : Nat) : Prop where
  hio : T.fns[io]? = some (F_is_of io)
  hr : T.fns[r]? = some (F_reckoned nm r ag cl ca fl if_ sm wi)
  hnm : T.fns[nm]? = some F_named
  hsm : T.fns[sm]? = some (F_value_of_sum io r)
  hif : T.fns[if_]? = some (F_value_of_if r)
  hfl : T.fns[fl]? = some (F_value_of_field r)
  hwi : T.fns[wi]? = some (F_value_of_with nm r)
  hca : T.fns[ca]? = some (F_value_of_case nm r)
  hag : T.fns[ag]? = some (F_value_of_again nm r)
  hpo : T.fns[po]? = some F_place_of
  hcl : T.fns[cl]? = some (F_value_of_call po r)
def Rk (T : Tab) (r : Nat) (dl : List D) (ns : List (Str × D)) (t : D) (res : Rs D) (n : Nat) : Prop :=
  ∀ (k : Nat), n ≤ k → ∀ (rv : RV), Held rv (.dct ns) → RkO (callN T k r [.val (.lst dl), rv, .val t]) res
theorem Rk.mono {T : Tab} {r : Nat} {dl : List D} {ns : List (Str × D)} {t : D} {res : Rs D} {n n' : Nat} (h : Rk T r dl ns t res n) (hn : n ≤ n') : Rk T r dl ns t res n' := fun k hk => h k (Nat.le_trans hn hk)
section
variable {T : Tab} {io r nm sm if_ fl wi ca ag po cl : Nat} {dl : List D} {ns : List (Str × D)}
theorem named_ok (hf : T.fns[nm]? = some F_named) {n : Nat} {rv : RV} (hr : Held rv (.dct ns)) (hl : ns.length < lim) (x : Str) (v : D) : callN T (n + 1) nm [rv, .val (.str x), .val v] = .ok (.own (.dct (put ns x v))) := by
  obtain ⟨c, hc, rd, ec⟩ := hr
  rw [call_fin T n nm _ _ hf rfl]
  have e0 : startE F_named.N.length [rv, .val (.str x), .val v] = [c, .val (.str x), .val v, .no] := by
    rw [← ec]
    rfl
  rw [e0]
  have pf : evS (callN T n) T.sub [c, .val (.str x), .val v, .own (.dct ns)] (.setI 3 (.var 1) (.var 2)) = .nx [c, .val (.str x), .val v, .own (.dct (put ns x v))] := by
    rw [s_setO (d := .dct ns) rfl]
    simp only [x_str, x_int, x_var, x_bin, x_cmp, x_bl, x_sub, x_slc, x_call, x_tup, x_lst, x_dct, x_and, x_or, x_not, x_isi, x_bfn, xs_nil, xs_cons, bind_ok, d_val, d_own, d_bor, c_eqi, c_eqs, c_lt, c_le, c_gt, c_ge, bl_val, cell_val, cell_own, cell_lent, cell_bor, vas_nil, vas_cons, va_val, va_own, b_add, b_sub, and_nil, or_nil, q_and, q_or, q_at, q_af, q_ot, q_of, c_ind, c_nind, pu_nil, mg_nil, q_an, q_on, c_nes, c_neb, c_eqb, Bool.not_true, Bool.not_false, q_cons, q_nx, q_ret, q_if, q_tt, q_ff, ss_nil, ss_frz, s_asg, s_ret, out_ok, give_val, give_own, fin_ret, fin_nx, ret_val, ret_own, frz_own, frz_val, frz_bor, List.getD_cons_zero, List.getD_cons_succ, startE, List.map_cons, List.map_nil, List.length_cons, List.length_nil, List.replicate, List.cons_append, List.nil_append, List.getElem?_cons_zero, List.getElem?_cons_succ, List.set_cons_zero, List.set_cons_succ, Nat.reduceSub, Nat.reduceAdd, decide_true, decide_false, Int.reduceAdd, Int.reduceSub, beq_self_eq_true, Bool.false_eq_true, if_false, if_true]
    rw [setO_dct rfl hl]
    rfl
  simp only [F_named, x_str, x_int, x_var, x_bin, x_cmp, x_bl, x_sub, x_slc, x_call, x_tup, x_lst, x_dct, x_and, x_or, x_not, x_isi, x_bfn, xs_nil, xs_cons, bind_ok, d_val, d_own, d_bor, c_eqi, c_eqs, c_lt, c_le, c_gt, c_ge, bl_val, cell_val, cell_own, cell_lent, cell_bor, vas_nil, vas_cons, va_val, va_own, b_add, b_sub, and_nil, or_nil, q_and, q_or, q_at, q_af, q_ot, q_of, c_ind, c_nind, pu_nil, mg_nil, q_an, q_on, c_nes, c_neb, c_eqb, Bool.not_true, Bool.not_false, q_cons, q_nx, q_ret, q_if, q_tt, q_ff, ss_nil, ss_frz, s_asg, s_ret, out_ok, give_val, give_own, fin_ret, fin_nx, ret_val, ret_own, frz_own, frz_val, frz_bor, List.getD_cons_zero, List.getD_cons_succ, startE, List.map_cons, List.map_nil, List.length_cons, List.length_nil, List.replicate, List.cons_append, List.nil_append, List.getElem?_cons_zero, List.getElem?_cons_succ, List.set_cons_zero, List.set_cons_succ, Nat.reduceSub, Nat.reduceAdd, decide_true, decide_false, Int.reduceAdd, Int.reduceSub, beq_self_eq_true, Bool.false_eq_true, if_false, if_true, hc, rd, dct_dct, pf]
  first | done | rfl
theorem named_own (hf : T.fns[nm]? = some F_named) {n : Nat} {rv r2 : RV} (hr : Held rv (.dct ns)) (hl : ns.length < lim) (x : Str) {v : D} (h : r2 = .val v ∨ r2 = .own v) : callN T (n + 1) nm [rv, .val (.str x), r2] = .ok (.own (.dct (put ns x v))) := by
  have e : callN T (n + 1) nm [rv, .val (.str x), r2] = callN T (n + 1) nm [rv, .val (.str x), .val v] := by
    rcases h with h | h
    · rw [h]
    · rw [h]
      obtain ⟨c, hc, rd, ec⟩ := hr
      have z := call_nrm T (n + 1) nm [rv, .val (.str x), .own v]
      have z2 := call_nrm T (n + 1) nm [rv, .val (.str x), .val v]
      exact z.symm.trans z2
  rw [e]
  exact named_ok hf hr hl x v
/-- reckoned, begun -/
theorem rk_start (RT : RkT T io r nm sm if_ fl wi ca ag po cl) {k : Nat} {rv : RV} {c : Cel} {t : D} (ec : (match rv with
  | .val d => Cel.val d
  | .own d => Cel.val d
  | .bor d => Cel.bor d) = c) : callN T (k + 1) r [.val (.lst dl), rv, .val t] = (evSs (callN T k) T.sub [.val (.lst dl), c, .val t, .no, .no] (F_reckoned nm r ag cl ca fl if_ sm wi).body).fin := by
  rw [call_fin T k r _ _ RT.hr rfl, ← ec]
  rfl
theorem rk_num (RT : RkT T io r nm sm if_ fl wi ca ag po cl) (v : D) : Rk T r dl ns (.tup [.str "num", v]) (.ok v) 1 := by
  intro k hk rv ⟨c, hc, rd, ec⟩
  obtain ⟨k', e⟩ : ∃ k', k = k' + 1 := ⟨k - 1, by omega⟩
  subst e
  refine .inl ?_
  rw [rk_start RT ec]
  simp only [F_reckoned, x_str, x_int, x_var, x_bin, x_cmp, x_bl, x_sub, x_slc, x_call, x_tup, x_lst, x_dct, x_and, x_or, x_not, x_isi, x_bfn, xs_nil, xs_cons, bind_ok, d_val, d_own, d_bor, c_eqi, c_eqs, c_lt, c_le, c_gt, c_ge, bl_val, cell_val, cell_own, cell_lent, cell_bor, vas_nil, vas_cons, va_val, va_own, b_add, b_sub, and_nil, or_nil, q_and, q_or, q_at, q_af, q_ot, q_of, c_ind, c_nind, pu_nil, mg_nil, q_an, q_on, c_nes, c_neb, c_eqb, Bool.not_true, Bool.not_false, q_cons, q_nx, q_ret, q_if, q_tt, q_ff, ss_nil, ss_frz, s_asg, s_ret, out_ok, give_val, give_own, fin_ret, fin_nx, ret_val, ret_own, frz_own, frz_val, frz_bor, List.getD_cons_zero, List.getD_cons_succ, startE, List.map_cons, List.map_nil, List.length_cons, List.length_nil, List.replicate, List.cons_append, List.nil_append, List.getElem?_cons_zero, List.getElem?_cons_succ, List.set_cons_zero, List.set_cons_succ, Nat.reduceSub, Nat.reduceAdd, decide_true, decide_false, Int.reduceAdd, Int.reduceSub, beq_self_eq_true, Bool.false_eq_true, if_false, if_true, hc, rd, s2_0, s2_1, s3_0, s3_1, s3_2, s4_0, s4_1, s4_2, s4_3, s5_0, s5_1, s5_2, s5_3, s5_4, w_num_num, w_num_truth, w_num_name, w_num_add, w_num_take, w_num_part, w_num_less, w_num_let, w_num_if, w_num_record, w_num_field, w_num_with, w_num_choice, w_num_case, w_num_again]
theorem rk_truth (RT : RkT T io r nm sm if_ fl wi ca ag po cl) (v : D) : Rk T r dl ns (.tup [.str "truth", v]) (.ok v) 1 := by
  intro k hk rv ⟨c, hc, rd, ec⟩
  obtain ⟨k', e⟩ : ∃ k', k = k' + 1 := ⟨k - 1, by omega⟩
  subst e
  refine .inl ?_
  rw [rk_start RT ec]
  simp only [F_reckoned, x_str, x_int, x_var, x_bin, x_cmp, x_bl, x_sub, x_slc, x_call, x_tup, x_lst, x_dct, x_and, x_or, x_not, x_isi, x_bfn, xs_nil, xs_cons, bind_ok, d_val, d_own, d_bor, c_eqi, c_eqs, c_lt, c_le, c_gt, c_ge, bl_val, cell_val, cell_own, cell_lent, cell_bor, vas_nil, vas_cons, va_val, va_own, b_add, b_sub, and_nil, or_nil, q_and, q_or, q_at, q_af, q_ot, q_of, c_ind, c_nind, pu_nil, mg_nil, q_an, q_on, c_nes, c_neb, c_eqb, Bool.not_true, Bool.not_false, q_cons, q_nx, q_ret, q_if, q_tt, q_ff, ss_nil, ss_frz, s_asg, s_ret, out_ok, give_val, give_own, fin_ret, fin_nx, ret_val, ret_own, frz_own, frz_val, frz_bor, List.getD_cons_zero, List.getD_cons_succ, startE, List.map_cons, List.map_nil, List.length_cons, List.length_nil, List.replicate, List.cons_append, List.nil_append, List.getElem?_cons_zero, List.getElem?_cons_succ, List.set_cons_zero, List.set_cons_succ, Nat.reduceSub, Nat.reduceAdd, decide_true, decide_false, Int.reduceAdd, Int.reduceSub, beq_self_eq_true, Bool.false_eq_true, if_false, if_true, hc, rd, s2_0, s2_1, s3_0, s3_1, s3_2, s4_0, s4_1, s4_2, s4_3, s5_0, s5_1, s5_2, s5_3, s5_4, w_truth_num, w_truth_truth]
theorem rk_name (RT : RkT T io r nm sm if_ fl wi ca ag po cl) {x : Str} {v : D} (h : look ns x = some v) : Rk T r dl ns (.tup [.str "name", .str x]) (.ok v) 1 := by
  intro k hk rv ⟨c, hc, rd, ec⟩
  obtain ⟨k', e⟩ : ∃ k', k = k' + 1 := ⟨k - 1, by omega⟩
  subst e
  refine .inl ?_
  rw [rk_start RT ec]
  have h0 : has ns x = true := by rw [has_look, h]; rfl
  simp only [F_reckoned, x_str, x_int, x_var, x_bin, x_cmp, x_bl, x_sub, x_slc, x_call, x_tup, x_lst, x_dct, x_and, x_or, x_not, x_isi, x_bfn, xs_nil, xs_cons, bind_ok, d_val, d_own, d_bor, c_eqi, c_eqs, c_lt, c_le, c_gt, c_ge, bl_val, cell_val, cell_own, cell_lent, cell_bor, vas_nil, vas_cons, va_val, va_own, b_add, b_sub, and_nil, or_nil, q_and, q_or, q_at, q_af, q_ot, q_of, c_ind, c_nind, pu_nil, mg_nil, q_an, q_on, c_nes, c_neb, c_eqb, Bool.not_true, Bool.not_false, q_cons, q_nx, q_ret, q_if, q_tt, q_ff, ss_nil, ss_frz, s_asg, s_ret, out_ok, give_val, give_own, fin_ret, fin_nx, ret_val, ret_own, frz_own, frz_val, frz_bor, List.getD_cons_zero, List.getD_cons_succ, startE, List.map_cons, List.map_nil, List.length_cons, List.length_nil, List.replicate, List.cons_append, List.nil_append, List.getElem?_cons_zero, List.getElem?_cons_succ, List.set_cons_zero, List.set_cons_succ, Nat.reduceSub, Nat.reduceAdd, decide_true, decide_false, Int.reduceAdd, Int.reduceSub, beq_self_eq_true, Bool.false_eq_true, if_false, if_true, hc, rd, s2_0, s2_1, s3_0, s3_1, s3_2, s4_0, s4_1, s4_2, s4_3, s5_0, s5_1, s5_2, s5_3, s5_4, w_name_num, w_name_truth, w_name_name, h0, sub_dct h]
theorem rk_noname (RT : RkT T io r nm sm if_ fl wi ca ag po cl) {x : Str} (h : look ns x = none) : Rk T r dl ns (.tup [.str "name", .str x]) (.exc "LostName") 1 := by
  intro k hk rv ⟨c, hc, rd, ec⟩
  obtain ⟨k', e⟩ : ∃ k', k = k' + 1 := ⟨k - 1, by omega⟩
  subst e
  show callN _ _ _ _ = _
  rw [rk_start RT ec]
  have h0 : has ns x = false := by rw [has_look, h]; rfl
  simp only [F_reckoned, x_str, x_int, x_var, x_bin, x_cmp, x_bl, x_sub, x_slc, x_call, x_tup, x_lst, x_dct, x_and, x_or, x_not, x_isi, x_bfn, xs_nil, xs_cons, bind_ok, d_val, d_own, d_bor, c_eqi, c_eqs, c_lt, c_le, c_gt, c_ge, bl_val, cell_val, cell_own, cell_lent, cell_bor, vas_nil, vas_cons, va_val, va_own, b_add, b_sub, and_nil, or_nil, q_and, q_or, q_at, q_af, q_ot, q_of, c_ind, c_nind, pu_nil, mg_nil, q_an, q_on, c_nes, c_neb, c_eqb, Bool.not_true, Bool.not_false, q_cons, q_nx, q_ret, q_if, q_tt, q_ff, ss_nil, ss_frz, s_asg, s_ret, out_ok, give_val, give_own, fin_ret, fin_nx, ret_val, ret_own, frz_own, frz_val, frz_bor, List.getD_cons_zero, List.getD_cons_succ, startE, List.map_cons, List.map_nil, List.length_cons, List.length_nil, List.replicate, List.cons_append, List.nil_append, List.getElem?_cons_zero, List.getElem?_cons_succ, List.set_cons_zero, List.set_cons_succ, Nat.reduceSub, Nat.reduceAdd, decide_true, decide_false, Int.reduceAdd, Int.reduceSub, beq_self_eq_true, Bool.false_eq_true, if_false, if_true, hc, rd, s2_0, s2_1, s3_0, s3_1, s3_2, s4_0, s4_1, s4_2, s4_3, s5_0, s5_1, s5_2, s5_3, s5_4, w_name_num, w_name_truth, w_name_name, h0, s_rais, q_exc, fin_exc]
theorem rk_let (RT : RkT T io r nm sm if_ fl wi ca ag po cl) {x : Str} {a b v : D} {res : Rs D} {n1 n2 : Nat} (ha : Rk T r dl ns a (.ok v) n1) (hb : Rk T r dl (put ns x v) b res n2) (hl : ns.length < lim) : Rk T r dl ns (.tup [.str "let", .str x, a, b]) res (max (max n1 n2) 1 + 1) := by
  intro k hk rv hr
  obtain ⟨c, hc, rd, ec⟩ := id hr
  obtain ⟨k', e⟩ : ∃ k', k = k' + 2 := ⟨k - 2, by omega⟩
  subst e
  rw [rk_start RT ec]
  have f2 := hb (k' + 1) (by omega) (.val (.dct (put ns x v))) (held_val _)
  have z : ∀ r1, (r1 = .val v ∨ r1 = .own v) → callN T (k' + 1) r [.val (.lst dl), rv, .val a] = .ok r1 → (evSs (callN T (k' + 1)) T.sub [.val (.lst dl), c, .val (.tup [.str "let", .str x, a, b]), .no, .no] (F_reckoned nm r ag cl ca fl if_ sm wi).body).fin = callN T (k' + 1) r [.val (.lst dl), .val (.dct (put ns x v)), .val b] := fun r1 hr1 f1 => by
    have nm_ := named_own (n := k') RT.hnm hr hl x hr1
    simp only [F_reckoned, x_str, x_int, x_var, x_bin, x_cmp, x_bl, x_sub, x_slc, x_call, x_tup, x_lst, x_dct, x_and, x_or, x_not, x_isi, x_bfn, xs_nil, xs_cons, bind_ok, d_val, d_own, d_bor, c_eqi, c_eqs, c_lt, c_le, c_gt, c_ge, bl_val, cell_val, cell_own, cell_lent, cell_bor, vas_nil, vas_cons, va_val, va_own, b_add, b_sub, and_nil, or_nil, q_and, q_or, q_at, q_af, q_ot, q_of, c_ind, c_nind, pu_nil, mg_nil, q_an, q_on, c_nes, c_neb, c_eqb, Bool.not_true, Bool.not_false, q_cons, q_nx, q_ret, q_if, q_tt, q_ff, ss_nil, ss_frz, s_asg, s_ret, out_ok, give_val, give_own, fin_ret, fin_nx, ret_val, ret_own, frz_own, frz_val, frz_bor, List.getD_cons_zero, List.getD_cons_succ, startE, List.map_cons, List.map_nil, List.length_cons, List.length_nil, List.replicate, List.cons_append, List.nil_append, List.getElem?_cons_zero, List.getElem?_cons_succ, List.set_cons_zero, List.set_cons_succ, Nat.reduceSub, Nat.reduceAdd, decide_true, decide_false, Int.reduceAdd, Int.reduceSub, beq_self_eq_true, Bool.false_eq_true, if_false, if_true, hc, rd, s2_0, s2_1, s3_0, s3_1, s3_2, s4_0, s4_1, s4_2, s4_3, s5_0, s5_1, s5_2, s5_3, s5_4, w_let_num, w_let_truth, w_let_name, w_let_add, w_let_take, w_let_part, w_let_less, w_let_let, f1, nm_, call_own2, q_retout2]
    exact fin_pass f2.nb
  obtain ⟨r1, f1, hr1⟩ := (ha (k' + 1) (by omega) rv hr).two
  rw [z r1 hr1 f1]
  exact f2
theorem rk_let_exc (RT : RkT T io r nm sm if_ fl wi ca ag po cl) {x : Str} {a b : D} {n1 : Nat} {cl_ : Str} (ha : Rk T r dl ns a (.exc cl_) n1) : Rk T r dl ns (.tup [.str "let", .str x, a, b]) (.exc cl_) (n1 + 1) := by
  intro k hk rv hr
  obtain ⟨c, hc, rd, ec⟩ := id hr
  obtain ⟨k', e⟩ : ∃ k', k = k' + 1 := ⟨k - 1, by omega⟩
  subst e
  show callN _ _ _ _ = _
  rw [rk_start RT ec]
  have f1 : callN T k' r [.val (.lst dl), rv, .val a] = .exc cl_ := ha k' (by omega) rv hr
  simp only [F_reckoned, x_str, x_int, x_var, x_bin, x_cmp, x_bl, x_sub, x_slc, x_call, x_tup, x_lst, x_dct, x_and, x_or, x_not, x_isi, x_bfn, xs_nil, xs_cons, bind_ok, d_val, d_own, d_bor, c_eqi, c_eqs, c_lt, c_le, c_gt, c_ge, bl_val, cell_val, cell_own, cell_lent, cell_bor, vas_nil, vas_cons, va_val, va_own, b_add, b_sub, and_nil, or_nil, q_and, q_or, q_at, q_af, q_ot, q_of, c_ind, c_nind, pu_nil, mg_nil, q_an, q_on, c_nes, c_neb, c_eqb, Bool.not_true, Bool.not_false, q_cons, q_nx, q_ret, q_if, q_tt, q_ff, ss_nil, ss_frz, s_asg, s_ret, out_ok, give_val, give_own, fin_ret, fin_nx, ret_val, ret_own, frz_own, frz_val, frz_bor, List.getD_cons_zero, List.getD_cons_succ, startE, List.map_cons, List.map_nil, List.length_cons, List.length_nil, List.replicate, List.cons_append, List.nil_append, List.getElem?_cons_zero, List.getElem?_cons_succ, List.set_cons_zero, List.set_cons_succ, Nat.reduceSub, Nat.reduceAdd, decide_true, decide_false, Int.reduceAdd, Int.reduceSub, beq_self_eq_true, Bool.false_eq_true, if_false, if_true, hc, rd, s2_0, s2_1, s3_0, s3_1, s3_2, s4_0, s4_1, s4_2, s4_3, s5_0, s5_1, s5_2, s5_3, s5_4, w_let_num, w_let_truth, w_let_name, w_let_add, w_let_take, w_let_part, w_let_less, w_let_let, f1, bind_exc, out_exc, q_exc, fin_exc]
theorem rk_choice (RT : RkT T io r nm sm if_ fl wi ca ag po cl) {x : Str} {a v : D} {n1 : Nat} (ha : Rk T r dl ns a (.ok v) n1) : Rk T r dl ns (.tup [.str "choice", .str x, a]) (.ok (.tup [.str x, v])) (n1 + 1) := by
  intro k hk rv hr
  obtain ⟨c, hc, rd, ec⟩ := id hr
  obtain ⟨k', e⟩ : ∃ k', k = k' + 1 := ⟨k - 1, by omega⟩
  subst e
  refine .inl ?_
  rw [rk_start RT ec]
  obtain ⟨r1, f1, hr1⟩ := (ha k' (by omega) rv hr).two
  rcases hr1 with e | e <;> subst e <;> simp only [F_reckoned, x_str, x_int, x_var, x_bin, x_cmp, x_bl, x_sub, x_slc, x_call, x_tup, x_lst, x_dct, x_and, x_or, x_not, x_isi, x_bfn, xs_nil, xs_cons, bind_ok, d_val, d_own, d_bor, c_eqi, c_eqs, c_lt, c_le, c_gt, c_ge, bl_val, cell_val, cell_own, cell_lent, cell_bor, vas_nil, vas_cons, va_val, va_own, b_add, b_sub, and_nil, or_nil, q_and, q_or, q_at, q_af, q_ot, q_of, c_ind, c_nind, pu_nil, mg_nil, q_an, q_on, c_nes, c_neb, c_eqb, Bool.not_true, Bool.not_false, q_cons, q_nx, q_ret, q_if, q_tt, q_ff, ss_nil, ss_frz, s_asg, s_ret, out_ok, give_val, give_own, fin_ret, fin_nx, ret_val, ret_own, frz_own, frz_val, frz_bor, List.getD_cons_zero, List.getD_cons_succ, startE, List.map_cons, List.map_nil, List.length_cons, List.length_nil, List.replicate, List.cons_append, List.nil_append, List.getElem?_cons_zero, List.getElem?_cons_succ, List.set_cons_zero, List.set_cons_succ, Nat.reduceSub, Nat.reduceAdd, decide_true, decide_false, Int.reduceAdd, Int.reduceSub, beq_self_eq_true, Bool.false_eq_true, if_false, if_true, hc, rd, s2_0, s2_1, s3_0, s3_1, s3_2, s4_0, s4_1, s4_2, s4_3, s5_0, s5_1, s5_2, s5_3, s5_4, w_choice_num, w_choice_truth, w_choice_name, w_choice_add, w_choice_take, w_choice_part, w_choice_less, w_choice_let, w_choice_if, w_choice_record, w_choice_field, w_choice_with, w_choice_choice, f1]
theorem rk_choice_exc (RT : RkT T io r nm sm if_ fl wi ca ag po cl) {x : Str} {a : D} {n1 : Nat} {cl_ : Str} (ha : Rk T r dl ns a (.exc cl_) n1) : Rk T r dl ns (.tup [.str "choice", .str x, a]) (.exc cl_) (n1 + 1) := by
  intro k hk rv hr
  obtain ⟨c, hc, rd, ec⟩ := id hr
  obtain ⟨k', e⟩ : ∃ k', k = k' + 1 := ⟨k - 1, by omega⟩
  subst e
  show callN _ _ _ _ = _
  rw [rk_start RT ec]
  have f1 : callN T k' r [.val (.lst dl), rv, .val a] = .exc cl_ := ha k' (by omega) rv hr
  simp only [F_reckoned, x_str, x_int, x_var, x_bin, x_cmp, x_bl, x_sub, x_slc, x_call, x_tup, x_lst, x_dct, x_and, x_or, x_not, x_isi, x_bfn, xs_nil, xs_cons, bind_ok, d_val, d_own, d_bor, c_eqi, c_eqs, c_lt, c_le, c_gt, c_ge, bl_val, cell_val, cell_own, cell_lent, cell_bor, vas_nil, vas_cons, va_val, va_own, b_add, b_sub, and_nil, or_nil, q_and, q_or, q_at, q_af, q_ot, q_of, c_ind, c_nind, pu_nil, mg_nil, q_an, q_on, c_nes, c_neb, c_eqb, Bool.not_true, Bool.not_false, q_cons, q_nx, q_ret, q_if, q_tt, q_ff, ss_nil, ss_frz, s_asg, s_ret, out_ok, give_val, give_own, fin_ret, fin_nx, ret_val, ret_own, frz_own, frz_val, frz_bor, List.getD_cons_zero, List.getD_cons_succ, startE, List.map_cons, List.map_nil, List.length_cons, List.length_nil, List.replicate, List.cons_append, List.nil_append, List.getElem?_cons_zero, List.getElem?_cons_succ, List.set_cons_zero, List.set_cons_succ, Nat.reduceSub, Nat.reduceAdd, decide_true, decide_false, Int.reduceAdd, Int.reduceSub, beq_self_eq_true, Bool.false_eq_true, if_false, if_true, hc, rd, s2_0, s2_1, s3_0, s3_1, s3_2, s4_0, s4_1, s4_2, s4_3, s5_0, s5_1, s5_2, s5_3, s5_4, w_choice_num, w_choice_truth, w_choice_name, w_choice_add, w_choice_take, w_choice_part, w_choice_less, w_choice_let, w_choice_if, w_choice_record, w_choice_field, w_choice_with, w_choice_choice, f1, bind_exc, out_exc, q_exc, fin_exc]
/-! ### if -/
theorem if_start (RT : RkT T io r nm sm if_ fl wi ca ag po cl) {k : Nat} {rv : RV} {t : D} : Held rv (.dct ns) → ∀ x y z, t = .tup [.str "if", x, y, z] → NB (callN T k if_ [.val (.lst dl), rv, .val t]) → callN T (k + 1) r [.val (.lst dl), rv, .val t] = callN T k if_ [.val (.lst dl), rv, .val t] := fun ⟨c, hc, rd, ec⟩ x y z e nb => by
  subst e
  rw [rk_start RT ec]
  simp only [F_reckoned, x_str, x_int, x_var, x_bin, x_cmp, x_bl, x_sub, x_slc, x_call, x_tup, x_lst, x_dct, x_and, x_or, x_not, x_isi, x_bfn, xs_nil, xs_cons, bind_ok, d_val, d_own, d_bor, c_eqi, c_eqs, c_lt, c_le, c_gt, c_ge, bl_val, cell_val, cell_own, cell_lent, cell_bor, vas_nil, vas_cons, va_val, va_own, b_add, b_sub, and_nil, or_nil, q_and, q_or, q_at, q_af, q_ot, q_of, c_ind, c_nind, pu_nil, mg_nil, q_an, q_on, c_nes, c_neb, c_eqb, Bool.not_true, Bool.not_false, q_cons, q_nx, q_ret, q_if, q_tt, q_ff, ss_nil, ss_frz, s_asg, s_ret, out_ok, give_val, give_own, fin_ret, fin_nx, ret_val, ret_own, frz_own, frz_val, frz_bor, List.getD_cons_zero, List.getD_cons_succ, startE, List.map_cons, List.map_nil, List.length_cons, List.length_nil, List.replicate, List.cons_append, List.nil_append, List.getElem?_cons_zero, List.getElem?_cons_succ, List.set_cons_zero, List.set_cons_succ, Nat.reduceSub, Nat.reduceAdd, decide_true, decide_false, Int.reduceAdd, Int.reduceSub, beq_self_eq_true, Bool.false_eq_true, if_false, if_true, hc, rd, s2_0, s2_1, s3_0, s3_1, s3_2, s4_0, s4_1, s4_2, s4_3, s5_0, s5_1, s5_2, s5_3, s5_4, w_if_num, w_if_truth, w_if_name, w_if_add, w_if_take, w_if_part, w_if_less, w_if_let, w_if_if, q_retout2]
  exact fin_pass nb
theorem rk_if (RT : RkT T io r nm sm if_ fl wi ca ag po cl) {t a b : D} {q : Bool} {res : Rs D} {n1 n2 : Nat} (ht : Rk T r dl ns t (.ok (.bl q)) n1) (hb : Rk T r dl ns (if q = true then a else b) res n2) : Rk T r dl ns (.tup [.str "if", t, a, b]) res (max n1 n2 + 2) := by
  intro k hk rv hr
  obtain ⟨c, hc, rd, ec⟩ := id hr
  obtain ⟨k', e⟩ : ∃ k', k = k' + 2 := ⟨k - 2, by omega⟩
  subst e
  have f2 := hb k' (by omega) rv hr
  have f1 : callN T k' r [.val (.lst dl), rv, .val t] = .ok (.val (.bl q)) := (ht k' (by omega) rv hr).plain fun _ z => by cases z
  have e0 : startE (F_value_of_if r).N.length [.val (.lst dl), rv, .val (.tup [.str "if", t, a, b])] = [.val (.lst dl), c, .val (.tup [.str "if", t, a, b]), .no] := by
    rw [← ec]; rfl
  have tb : ([Ty.bool].any (D.bl q).isTy) = true := rfl
  have main : callN T (k' + 1) if_ [.val (.lst dl), rv, .val (.tup [.str "if", t, a, b])] = callN T k' r [.val (.lst dl), rv, .val (if q = true then a else b)] := by
    rw [call_fin T k' if_ _ _ RT.hif rfl, e0]
    cases q with
    | true =>
      rw [if_pos rfl] at f2
      simp only [F_value_of_if, x_str, x_int, x_var, x_bin, x_cmp, x_bl, x_sub, x_slc, x_call, x_tup, x_lst, x_dct, x_and, x_or, x_not, x_isi, x_bfn, xs_nil, xs_cons, bind_ok, d_val, d_own, d_bor, c_eqi, c_eqs, c_lt, c_le, c_gt, c_ge, bl_val, cell_val, cell_own, cell_lent, cell_bor, vas_nil, vas_cons, va_val, va_own, b_add, b_sub, and_nil, or_nil, q_and, q_or, q_at, q_af, q_ot, q_of, c_ind, c_nind, pu_nil, mg_nil, q_an, q_on, c_nes, c_neb, c_eqb, Bool.not_true, Bool.not_false, q_cons, q_nx, q_ret, q_if, q_tt, q_ff, ss_nil, ss_frz, s_asg, s_ret, out_ok, give_val, give_own, fin_ret, fin_nx, ret_val, ret_own, frz_own, frz_val, frz_bor, List.getD_cons_zero, List.getD_cons_succ, startE, List.map_cons, List.map_nil, List.length_cons, List.length_nil, List.replicate, List.cons_append, List.nil_append, List.getElem?_cons_zero, List.getElem?_cons_succ, List.set_cons_zero, List.set_cons_succ, Nat.reduceSub, Nat.reduceAdd, decide_true, decide_false, Int.reduceAdd, Int.reduceSub, beq_self_eq_true, Bool.false_eq_true, if_false, if_true, hc, rd, s2_0, s2_1, s3_0, s3_1, s3_2, s4_0, s4_1, s4_2, s4_3, s5_0, s5_1, s5_2, s5_3, s5_4, f1, tb, q_retout2]
      exact fin_pass f2.nb
    | false =>
      rw [if_neg (by decide)] at f2
      simp only [F_value_of_if, x_str, x_int, x_var, x_bin, x_cmp, x_bl, x_sub, x_slc, x_call, x_tup, x_lst, x_dct, x_and, x_or, x_not, x_isi, x_bfn, xs_nil, xs_cons, bind_ok, d_val, d_own, d_bor, c_eqi, c_eqs, c_lt, c_le, c_gt, c_ge, bl_val, cell_val, cell_own, cell_lent, cell_bor, vas_nil, vas_cons, va_val, va_own, b_add, b_sub, and_nil, or_nil, q_and, q_or, q_at, q_af, q_ot, q_of, c_ind, c_nind, pu_nil, mg_nil, q_an, q_on, c_nes, c_neb, c_eqb, Bool.not_true, Bool.not_false, q_cons, q_nx, q_ret, q_if, q_tt, q_ff, ss_nil, ss_frz, s_asg, s_ret, out_ok, give_val, give_own, fin_ret, fin_nx, ret_val, ret_own, frz_own, frz_val, frz_bor, List.getD_cons_zero, List.getD_cons_succ, startE, List.map_cons, List.map_nil, List.length_cons, List.length_nil, List.replicate, List.cons_append, List.nil_append, List.getElem?_cons_zero, List.getElem?_cons_succ, List.set_cons_zero, List.set_cons_succ, Nat.reduceSub, Nat.reduceAdd, decide_true, decide_false, Int.reduceAdd, Int.reduceSub, beq_self_eq_true, Bool.false_eq_true, if_false, if_true, hc, rd, s2_0, s2_1, s3_0, s3_1, s3_2, s4_0, s4_1, s4_2, s4_3, s5_0, s5_1, s5_2, s5_3, s5_4, f1, tb, q_retout2]
      exact fin_pass f2.nb
  rw [if_start RT hr _ _ _ rfl (by rw [main]; exact f2.nb), main]
  exact f2
end
end Ev
set_option Elab.async false
set_option linter.all false
set_option maxRecDepth 100000
set_option maxHeartbeats 4000000
set_option autoImplicit false
/-! reckoned: sums, records, fields, cases. -/
namespace Ev
open PySem L2
section
variable {T : Tab} {io r nm sm if_ fl wi ca ag po cl : Nat} {dl : List D} {ns : List (Str × D)}
theorem is_num {v : D} {rv : RV} {n : Nat} (hf : T.fns[io]? = some (F_is_of io)) (hr : Held rv v) : callN T (n + 1) io [rv, .val (.str "num")] = .ok (.val (.bl (v.isTy .int && !v.isTy .bool))) := by
  obtain ⟨c, hc, rd, ec⟩ := hr
  rw [call_fin T n io _ _ hf rfl]
  have e0 : startE (F_is_of io).N.length [rv, .val (.str "num")] = [c, .val (.str "num"), .no] := by
    rw [← ec]; rfl
  rw [e0]
  cases h1 : v.isTy .int <;> cases h2 : v.isTy .bool <;> simp only [F_is_of, x_str, x_int, x_var, x_bin, x_cmp, x_bl, x_sub, x_slc, x_call, x_tup, x_lst, x_dct, x_and, x_or, x_not, x_isi, x_bfn, xs_nil, xs_cons, bind_ok, d_val, d_own, d_bor, c_eqi, c_eqs, c_lt, c_le, c_gt, c_ge, bl_val, cell_val, cell_own, cell_lent, cell_bor, vas_nil, vas_cons, va_val, va_own, b_add, b_sub, and_nil, or_nil, q_and, q_or, q_at, q_af, q_ot, q_of, c_ind, c_nind, pu_nil, mg_nil, q_an, q_on, c_nes, c_neb, c_eqb, Bool.not_true, Bool.not_false, q_cons, q_nx, q_ret, q_if, q_tt, q_ff, ss_nil, ss_frz, s_asg, s_ret, out_ok, give_val, give_own, fin_ret, fin_nx, ret_val, ret_own, frz_own, frz_val, frz_bor, List.getD_cons_zero, List.getD_cons_succ, startE, List.map_cons, List.map_nil, List.length_cons, List.length_nil, List.replicate, List.cons_append, List.nil_append, List.getElem?_cons_zero, List.getElem?_cons_succ, List.set_cons_zero, List.set_cons_succ, Nat.reduceSub, Nat.reduceAdd, decide_true, decide_false, Int.reduceAdd, Int.reduceSub, beq_self_eq_true, Bool.false_eq_true, if_false, if_true, hc, rd, lit_nn, List.any_cons, List.any_nil, Bool.or_false, h1, h2, Bool.and_true, Bool.and_false]
def most : Int := 1000000000000
def sumF (w : Str) (i j : Int) : Int := if w = "add" then i + j else if w = "take" then i - j else i.fdiv j
theorem sumF_add {i j : Int} : sumF "add" i j = i + j := if_pos rfl
theorem sumF_take {i j : Int} : sumF "take" i j = i - j := (if_neg (by decide +kernel)).trans (if_pos rfl)
theorem sumF_part {i j : Int} : sumF "part" i j = i.fdiv j := (if_neg (by decide +kernel)).trans (if_neg (by decide +kernel))
/-- what a sum, a difference, a quotient or a less comes to -/
def sumR (w : Str) (i j : Int) : Rs D :=
  if w = "less" then .ok (.bl (decide (i < j))) else if w = "part" ∧ j = 0 then .exc "ByNought" else
    if most < (if sumF w i j < 0 then -(sumF w i j) else sumF w i j) then .exc "TooGreat" else .ok (.int (sumF w i j))
def sumW (w : Str) : Prop := w = "add" ∨ w = "take" ∨ w = "part" ∨ w = "less"
theorem sum_start (RT : RkT T io r nm sm if_ fl wi ca ag po cl) {k : Nat} {rv : RV} {w : Str} {a b : D} (hw : sumW w) : Held rv (.dct ns) → NB (callN T k sm [.val (.lst dl), rv, .val (.tup [.str w, a, b])]) → callN T (k + 1) r [.val (.lst dl), rv, .val (.tup [.str w, a, b])] = callN T k sm [.val (.lst dl), rv, .val (.tup [.str w, a, b])] := fun ⟨c, hc, rd, ec⟩ nb => by
  rw [rk_start RT ec]
  rcases hw with e | e | e | e <;> subst e
  · simp only [F_reckoned, x_str, x_int, x_var, x_bin, x_cmp, x_bl, x_sub, x_slc, x_call, x_tup, x_lst, x_dct, x_and, x_or, x_not, x_isi, x_bfn, xs_nil, xs_cons, bind_ok, d_val, d_own, d_bor, c_eqi, c_eqs, c_lt, c_le, c_gt, c_ge, bl_val, cell_val, cell_own, cell_lent, cell_bor, vas_nil, vas_cons, va_val, va_own, b_add, b_sub, and_nil, or_nil, q_and, q_or, q_at, q_af, q_ot, q_of, c_ind, c_nind, pu_nil, mg_nil, q_an, q_on, c_nes, c_neb, c_eqb, Bool.not_true, Bool.not_false, q_cons, q_nx, q_ret, q_if, q_tt, q_ff, ss_nil, ss_frz, s_asg, s_ret, out_ok, give_val, give_own, fin_ret, fin_nx, ret_val, ret_own, frz_own, frz_val, frz_bor, List.getD_cons_zero, List.getD_cons_succ, startE, List.map_cons, List.map_nil, List.length_cons, List.length_nil, List.replicate, List.cons_append, List.nil_append, List.getElem?_cons_zero, List.getElem?_cons_succ, List.set_cons_zero, List.set_cons_succ, Nat.reduceSub, Nat.reduceAdd, decide_true, decide_false, Int.reduceAdd, Int.reduceSub, beq_self_eq_true, Bool.false_eq_true, if_false, if_true, hc, rd, s2_0, s2_1, s3_0, s3_1, s3_2, s4_0, s4_1, s4_2, s4_3, s5_0, s5_1, s5_2, s5_3, s5_4, w_add_num, w_add_truth, w_add_name, w_add_add, q_retout2]
    exact fin_pass nb
  · simp only [F_reckoned, x_str, x_int, x_var, x_bin, x_cmp, x_bl, x_sub, x_slc, x_call, x_tup, x_lst, x_dct, x_and, x_or, x_not, x_isi, x_bfn, xs_nil, xs_cons, bind_ok, d_val, d_own, d_bor, c_eqi, c_eqs, c_lt, c_le, c_gt, c_ge, bl_val, cell_val, cell_own, cell_lent, cell_bor, vas_nil, vas_cons, va_val, va_own, b_add, b_sub, and_nil, or_nil, q_and, q_or, q_at, q_af, q_ot, q_of, c_ind, c_nind, pu_nil, mg_nil, q_an, q_on, c_nes, c_neb, c_eqb, Bool.not_true, Bool.not_false, q_cons, q_nx, q_ret, q_if, q_tt, q_ff, ss_nil, ss_frz, s_asg, s_ret, out_ok, give_val, give_own, fin_ret, fin_nx, ret_val, ret_own, frz_own, frz_val, frz_bor, List.getD_cons_zero, List.getD_cons_succ, startE, List.map_cons, List.map_nil, List.length_cons, List.length_nil, List.replicate, List.cons_append, List.nil_append, List.getElem?_cons_zero, List.getElem?_cons_succ, List.set_cons_zero, List.set_cons_succ, Nat.reduceSub, Nat.reduceAdd, decide_true, decide_false, Int.reduceAdd, Int.reduceSub, beq_self_eq_true, Bool.false_eq_true, if_false, if_true, hc, rd, s2_0, s2_1, s3_0, s3_1, s3_2, s4_0, s4_1, s4_2, s4_3, s5_0, s5_1, s5_2, s5_3, s5_4, w_take_num, w_take_truth, w_take_name, w_take_add, w_take_take, q_retout2]
    exact fin_pass nb
  · simp only [F_reckoned, x_str, x_int, x_var, x_bin, x_cmp, x_bl, x_sub, x_slc, x_call, x_tup, x_lst, x_dct, x_and, x_or, x_not, x_isi, x_bfn, xs_nil, xs_cons, bind_ok, d_val, d_own, d_bor, c_eqi, c_eqs, c_lt, c_le, c_gt, c_ge, bl_val, cell_val, cell_own, cell_lent, cell_bor, vas_nil, vas_cons, va_val, va_own, b_add, b_sub, and_nil, or_nil, q_and, q_or, q_at, q_af, q_ot, q_of, c_ind, c_nind, pu_nil, mg_nil, q_an, q_on, c_nes, c_neb, c_eqb, Bool.not_true, Bool.not_false, q_cons, q_nx, q_ret, q_if, q_tt, q_ff, ss_nil, ss_frz, s_asg, s_ret, out_ok, give_val, give_own, fin_ret, fin_nx, ret_val, ret_own, frz_own, frz_val, frz_bor, List.getD_cons_zero, List.getD_cons_succ, startE, List.map_cons, List.map_nil, List.length_cons, List.length_nil, List.replicate, List.cons_append, List.nil_append, List.getElem?_cons_zero, List.getElem?_cons_succ, List.set_cons_zero, List.set_cons_succ, Nat.reduceSub, Nat.reduceAdd, decide_true, decide_false, Int.reduceAdd, Int.reduceSub, beq_self_eq_true, Bool.false_eq_true, if_false, if_true, hc, rd, s2_0, s2_1, s3_0, s3_1, s3_2, s4_0, s4_1, s4_2, s4_3, s5_0, s5_1, s5_2, s5_3, s5_4, w_part_num, w_part_truth, w_part_name, w_part_add, w_part_take, w_part_part, q_retout2]
    exact fin_pass nb
  · simp only [F_reckoned, x_str, x_int, x_var, x_bin, x_cmp, x_bl, x_sub, x_slc, x_call, x_tup, x_lst, x_dct, x_and, x_or, x_not, x_isi, x_bfn, xs_nil, xs_cons, bind_ok, d_val, d_own, d_bor, c_eqi, c_eqs, c_lt, c_le, c_gt, c_ge, bl_val, cell_val, cell_own, cell_lent, cell_bor, vas_nil, vas_cons, va_val, va_own, b_add, b_sub, and_nil, or_nil, q_and, q_or, q_at, q_af, q_ot, q_of, c_ind, c_nind, pu_nil, mg_nil, q_an, q_on, c_nes, c_neb, c_eqb, Bool.not_true, Bool.not_false, q_cons, q_nx, q_ret, q_if, q_tt, q_ff, ss_nil, ss_frz, s_asg, s_ret, out_ok, give_val, give_own, fin_ret, fin_nx, ret_val, ret_own, frz_own, frz_val, frz_bor, List.getD_cons_zero, List.getD_cons_succ, startE, List.map_cons, List.map_nil, List.length_cons, List.length_nil, List.replicate, List.cons_append, List.nil_append, List.getElem?_cons_zero, List.getElem?_cons_succ, List.set_cons_zero, List.set_cons_succ, Nat.reduceSub, Nat.reduceAdd, decide_true, decide_false, Int.reduceAdd, Int.reduceSub, beq_self_eq_true, Bool.false_eq_true, if_false, if_true, hc, rd, s2_0, s2_1, s3_0, s3_1, s3_2, s4_0, s4_1, s4_2, s4_3, s5_0, s5_1, s5_2, s5_3, s5_4, w_less_num, w_less_truth, w_less_name, w_less_add, w_less_take, w_less_part, w_less_less, q_retout2]
    exact fin_pass nb
theorem sum_e0 {rv : RV} {c : Cel} {t : D} (ec : (match rv with
  | .val d => Cel.val d
  | .own d => Cel.val d
  | .bor d => Cel.bor d) = c) : startE (F_value_of_sum io r).N.length [.val (.lst dl), rv, .val t] = [.val (.lst dl), c, .val t, .no, .no, .no] := by
  rw [← ec]; rfl
theorem rk_sum (RT : RkT T io r nm sm if_ fl wi ca ag po cl) {w : Str} {a b : D} {i j : Int} {n1 n2 : Nat} (hw : sumW w) (ha : Rk T r dl ns a (.ok (.int i)) n1) (hb : Rk T r dl ns b (.ok (.int j)) n2) (hj : smallI j = true) :
    Rk T r dl ns (.tup [.str w, a, b]) (sumR w i j) (max (max n1 n2) 1 + 2) := by
  intro k hk rv hr
  obtain ⟨c, hc, rd, ec⟩ := id hr
  obtain ⟨k', e⟩ : ∃ k', k = k' + 3 := ⟨k - 3, by omega⟩
  subst e
  have f1 : callN T (k' + 1) r [.val (.lst dl), rv, .val a] = .ok (.val (.int i)) := (ha (k' + 1) (by omega) rv hr).plain fun _ z => by cases z
  have f2 : callN T (k' + 1) r [.val (.lst dl), rv, .val b] = .ok (.val (.int j)) := (hb (k' + 1) (by omega) rv hr).plain fun _ z => by cases z
  have g1 : callN T (k' + 1) io [.val (.int i), .val (.str "num")] = .ok (.val (.bl true)) := is_num RT.hio (held_val (.int i))
  have g2 : callN T (k' + 1) io [.val (.int j), .val (.str "num")] = .ok (.val (.bl true)) := is_num RT.hio (held_val (.int j))
  have ab : ∀ i : Int, bfnop .abs [.int i] = .ok (.val (.int (if i < 0 then -i else i))) := fun i => rfl
  have main : RkO (callN T (k' + 2) sm [.val (.lst dl), rv, .val (.tup [.str w, a, b])]) (sumR w i j) := by
    rw [call_fin T (k' + 1) sm _ _ RT.hsm rfl, sum_e0 ec]
    unfold sumR
    rcases hw with e | e | e | e <;> subst e
    · rw [if_neg (by decide +kernel), if_neg (fun z => absurd z.1 (by decide +kernel)), sumF_add]
      by_cases q : most < (if i + j < 0 then -(i + j) else i + j)
      · have q2 : decide ((1000000000000 : Int) < (if i + j < 0 then -(i + j) else i + j)) = true := decide_eq_true q
        rw [if_pos q]
        show _ = _
        simp only [F_value_of_sum, x_str, x_int, x_var, x_bin, x_cmp, x_bl, x_sub, x_slc, x_call, x_tup, x_lst, x_dct, x_and, x_or, x_not, x_isi, x_bfn, xs_nil, xs_cons, bind_ok, d_val, d_own, d_bor, c_eqi, c_eqs, c_lt, c_le, c_gt, c_ge, bl_val, cell_val, cell_own, cell_lent, cell_bor, vas_nil, vas_cons, va_val, va_own, b_add, b_sub, and_nil, or_nil, q_and, q_or, q_at, q_af, q_ot, q_of, c_ind, c_nind, pu_nil, mg_nil, q_an, q_on, c_nes, c_neb, c_eqb, Bool.not_true, Bool.not_false, q_cons, q_nx, q_ret, q_if, q_tt, q_ff, ss_nil, ss_frz, s_asg, s_ret, out_ok, give_val, give_own, fin_ret, fin_nx, ret_val, ret_own, frz_own, frz_val, frz_bor, List.getD_cons_zero, List.getD_cons_succ, startE, List.map_cons, List.map_nil, List.length_cons, List.length_nil, List.replicate, List.cons_append, List.nil_append, List.getElem?_cons_zero, List.getElem?_cons_succ, List.set_cons_zero, List.set_cons_succ, Nat.reduceSub, Nat.reduceAdd, decide_true, decide_false, Int.reduceAdd, Int.reduceSub, beq_self_eq_true, Bool.false_eq_true, if_false, if_true, hc, rd, s2_0, s2_1, s3_0, s3_1, s3_2, s4_0, s4_1, s4_2, s4_3, s5_0, s5_1, s5_2, s5_3, s5_4, f1, f2, g1, g2, w_add_less, w_add_part, w_add_add, w_add_take, x_glob, ab, q2, s_rais, q_exc, fin_exc]
      · have q2 : decide ((1000000000000 : Int) < (if i + j < 0 then -(i + j) else i + j)) = false := decide_eq_false q
        rw [if_neg q]
        refine .inl ?_
        simp only [F_value_of_sum, x_str, x_int, x_var, x_bin, x_cmp, x_bl, x_sub, x_slc, x_call, x_tup, x_lst, x_dct, x_and, x_or, x_not, x_isi, x_bfn, xs_nil, xs_cons, bind_ok, d_val, d_own, d_bor, c_eqi, c_eqs, c_lt, c_le, c_gt, c_ge, bl_val, cell_val, cell_own, cell_lent, cell_bor, vas_nil, vas_cons, va_val, va_own, b_add, b_sub, and_nil, or_nil, q_and, q_or, q_at, q_af, q_ot, q_of, c_ind, c_nind, pu_nil, mg_nil, q_an, q_on, c_nes, c_neb, c_eqb, Bool.not_true, Bool.not_false, q_cons, q_nx, q_ret, q_if, q_tt, q_ff, ss_nil, ss_frz, s_asg, s_ret, out_ok, give_val, give_own, fin_ret, fin_nx, ret_val, ret_own, frz_own, frz_val, frz_bor, List.getD_cons_zero, List.getD_cons_succ, startE, List.map_cons, List.map_nil, List.length_cons, List.length_nil, List.replicate, List.cons_append, List.nil_append, List.getElem?_cons_zero, List.getElem?_cons_succ, List.set_cons_zero, List.set_cons_succ, Nat.reduceSub, Nat.reduceAdd, decide_true, decide_false, Int.reduceAdd, Int.reduceSub, beq_self_eq_true, Bool.false_eq_true, if_false, if_true, hc, rd, s2_0, s2_1, s3_0, s3_1, s3_2, s4_0, s4_1, s4_2, s4_3, s5_0, s5_1, s5_2, s5_3, s5_4, f1, f2, g1, g2, w_add_less, w_add_part, w_add_add, w_add_take, x_glob, ab, q2]
    · rw [if_neg (by decide +kernel), if_neg (fun z => absurd z.1 (by decide +kernel)), sumF_take]
      by_cases q : most < (if i - j < 0 then -(i - j) else i - j)
      · have q2 : decide ((1000000000000 : Int) < (if i - j < 0 then -(i - j) else i - j)) = true := decide_eq_true q
        rw [if_pos q]
        show _ = _
        simp only [F_value_of_sum, x_str, x_int, x_var, x_bin, x_cmp, x_bl, x_sub, x_slc, x_call, x_tup, x_lst, x_dct, x_and, x_or, x_not, x_isi, x_bfn, xs_nil, xs_cons, bind_ok, d_val, d_own, d_bor, c_eqi, c_eqs, c_lt, c_le, c_gt, c_ge, bl_val, cell_val, cell_own, cell_lent, cell_bor, vas_nil, vas_cons, va_val, va_own, b_add, b_sub, and_nil, or_nil, q_and, q_or, q_at, q_af, q_ot, q_of, c_ind, c_nind, pu_nil, mg_nil, q_an, q_on, c_nes, c_neb, c_eqb, Bool.not_true, Bool.not_false, q_cons, q_nx, q_ret, q_if, q_tt, q_ff, ss_nil, ss_frz, s_asg, s_ret, out_ok, give_val, give_own, fin_ret, fin_nx, ret_val, ret_own, frz_own, frz_val, frz_bor, List.getD_cons_zero, List.getD_cons_succ, startE, List.map_cons, List.map_nil, List.length_cons, List.length_nil, List.replicate, List.cons_append, List.nil_append, List.getElem?_cons_zero, List.getElem?_cons_succ, List.set_cons_zero, List.set_cons_succ, Nat.reduceSub, Nat.reduceAdd, decide_true, decide_false, Int.reduceAdd, Int.reduceSub, beq_self_eq_true, Bool.false_eq_true, if_false, if_true, hc, rd, s2_0, s2_1, s3_0, s3_1, s3_2, s4_0, s4_1, s4_2, s4_3, s5_0, s5_1, s5_2, s5_3, s5_4, f1, f2, g1, g2, w_take_less, w_take_part, w_take_add, w_take_take, x_glob, ab, q2, s_rais, q_exc, fin_exc]
      · have q2 : decide ((1000000000000 : Int) < (if i - j < 0 then -(i - j) else i - j)) = false := decide_eq_false q
        rw [if_neg q]
        refine .inl ?_
        simp only [F_value_of_sum, x_str, x_int, x_var, x_bin, x_cmp, x_bl, x_sub, x_slc, x_call, x_tup, x_lst, x_dct, x_and, x_or, x_not, x_isi, x_bfn, xs_nil, xs_cons, bind_ok, d_val, d_own, d_bor, c_eqi, c_eqs, c_lt, c_le, c_gt, c_ge, bl_val, cell_val, cell_own, cell_lent, cell_bor, vas_nil, vas_cons, va_val, va_own, b_add, b_sub, and_nil, or_nil, q_and, q_or, q_at, q_af, q_ot, q_of, c_ind, c_nind, pu_nil, mg_nil, q_an, q_on, c_nes, c_neb, c_eqb, Bool.not_true, Bool.not_false, q_cons, q_nx, q_ret, q_if, q_tt, q_ff, ss_nil, ss_frz, s_asg, s_ret, out_ok, give_val, give_own, fin_ret, fin_nx, ret_val, ret_own, frz_own, frz_val, frz_bor, List.getD_cons_zero, List.getD_cons_succ, startE, List.map_cons, List.map_nil, List.length_cons, List.length_nil, List.replicate, List.cons_append, List.nil_append, List.getElem?_cons_zero, List.getElem?_cons_succ, List.set_cons_zero, List.set_cons_succ, Nat.reduceSub, Nat.reduceAdd, decide_true, decide_false, Int.reduceAdd, Int.reduceSub, beq_self_eq_true, Bool.false_eq_true, if_false, if_true, hc, rd, s2_0, s2_1, s3_0, s3_1, s3_2, s4_0, s4_1, s4_2, s4_3, s5_0, s5_1, s5_2, s5_3, s5_4, f1, f2, g1, g2, w_take_less, w_take_part, w_take_add, w_take_take, x_glob, ab, q2]
    · rw [if_neg (by decide +kernel)]
      by_cases j0 : j = 0
      · have j1 : (j == 0) = true := by rw [j0]; rfl
        rw [if_pos ⟨rfl, j0⟩]
        show _ = _
        simp only [F_value_of_sum, x_str, x_int, x_var, x_bin, x_cmp, x_bl, x_sub, x_slc, x_call, x_tup, x_lst, x_dct, x_and, x_or, x_not, x_isi, x_bfn, xs_nil, xs_cons, bind_ok, d_val, d_own, d_bor, c_eqi, c_eqs, c_lt, c_le, c_gt, c_ge, bl_val, cell_val, cell_own, cell_lent, cell_bor, vas_nil, vas_cons, va_val, va_own, b_add, b_sub, and_nil, or_nil, q_and, q_or, q_at, q_af, q_ot, q_of, c_ind, c_nind, pu_nil, mg_nil, q_an, q_on, c_nes, c_neb, c_eqb, Bool.not_true, Bool.not_false, q_cons, q_nx, q_ret, q_if, q_tt, q_ff, ss_nil, ss_frz, s_asg, s_ret, out_ok, give_val, give_own, fin_ret, fin_nx, ret_val, ret_own, frz_own, frz_val, frz_bor, List.getD_cons_zero, List.getD_cons_succ, startE, List.map_cons, List.map_nil, List.length_cons, List.length_nil, List.replicate, List.cons_append, List.nil_append, List.getElem?_cons_zero, List.getElem?_cons_succ, List.set_cons_zero, List.set_cons_succ, Nat.reduceSub, Nat.reduceAdd, decide_true, decide_false, Int.reduceAdd, Int.reduceSub, beq_self_eq_true, Bool.false_eq_true, if_false, if_true, hc, rd, s2_0, s2_1, s3_0, s3_1, s3_2, s4_0, s4_1, s4_2, s4_3, s5_0, s5_1, s5_2, s5_3, s5_4, f1, f2, g1, g2, w_part_less, w_part_part, w_part_add, w_part_take, j1, s_rais, q_exc, fin_exc]
      · have j1 : (j == 0) = false := beq_eq_false_iff_ne.mpr j0
        have dv := b_fdiv (i := i) (j := j) ⟨j0, hj⟩
        rw [if_neg (fun z => j0 z.2), sumF_part]
        by_cases q : most < (if i.fdiv j < 0 then -(i.fdiv j) else i.fdiv j)
        · have q2 : decide ((1000000000000 : Int) < (if i.fdiv j < 0 then -(i.fdiv j) else i.fdiv j)) = true := decide_eq_true q
          rw [if_pos q]
          show _ = _
          simp only [F_value_of_sum, x_str, x_int, x_var, x_bin, x_cmp, x_bl, x_sub, x_slc, x_call, x_tup, x_lst, x_dct, x_and, x_or, x_not, x_isi, x_bfn, xs_nil, xs_cons, bind_ok, d_val, d_own, d_bor, c_eqi, c_eqs, c_lt, c_le, c_gt, c_ge, bl_val, cell_val, cell_own, cell_lent, cell_bor, vas_nil, vas_cons, va_val, va_own, b_add, b_sub, and_nil, or_nil, q_and, q_or, q_at, q_af, q_ot, q_of, c_ind, c_nind, pu_nil, mg_nil, q_an, q_on, c_nes, c_neb, c_eqb, Bool.not_true, Bool.not_false, q_cons, q_nx, q_ret, q_if, q_tt, q_ff, ss_nil, ss_frz, s_asg, s_ret, out_ok, give_val, give_own, fin_ret, fin_nx, ret_val, ret_own, frz_own, frz_val, frz_bor, List.getD_cons_zero, List.getD_cons_succ, startE, List.map_cons, List.map_nil, List.length_cons, List.length_nil, List.replicate, List.cons_append, List.nil_append, List.getElem?_cons_zero, List.getElem?_cons_succ, List.set_cons_zero, List.set_cons_succ, Nat.reduceSub, Nat.reduceAdd, decide_true, decide_false, Int.reduceAdd, Int.reduceSub, beq_self_eq_true, Bool.false_eq_true, if_false, if_true, hc, rd, s2_0, s2_1, s3_0, s3_1, s3_2, s4_0, s4_1, s4_2, s4_3, s5_0, s5_1, s5_2, s5_3, s5_4, f1, f2, g1, g2, w_part_less, w_part_part, w_part_add, w_part_take, j1, dv, x_glob, ab, q2, s_rais, q_exc, fin_exc]
        · have q2 : decide ((1000000000000 : Int) < (if i.fdiv j < 0 then -(i.fdiv j) else i.fdiv j)) = false := decide_eq_false q
          rw [if_neg q]
          refine .inl ?_
          simp only [F_value_of_sum, x_str, x_int, x_var, x_bin, x_cmp, x_bl, x_sub, x_slc, x_call, x_tup, x_lst, x_dct, x_and, x_or, x_not, x_isi, x_bfn, xs_nil, xs_cons, bind_ok, d_val, d_own, d_bor, c_eqi, c_eqs, c_lt, c_le, c_gt, c_ge, bl_val, cell_val, cell_own, cell_lent, cell_bor, vas_nil, vas_cons, va_val, va_own, b_add, b_sub, and_nil, or_nil, q_and, q_or, q_at, q_af, q_ot, q_of, c_ind, c_nind, pu_nil, mg_nil, q_an, q_on, c_nes, c_neb, c_eqb, Bool.not_true, Bool.not_false, q_cons, q_nx, q_ret, q_if, q_tt, q_ff, ss_nil, ss_frz, s_asg, s_ret, out_ok, give_val, give_own, fin_ret, fin_nx, ret_val, ret_own, frz_own, frz_val, frz_bor, List.getD_cons_zero, List.getD_cons_succ, startE, List.map_cons, List.map_nil, List.length_cons, List.length_nil, List.replicate, List.cons_append, List.nil_append, List.getElem?_cons_zero, List.getElem?_cons_succ, List.set_cons_zero, List.set_cons_succ, Nat.reduceSub, Nat.reduceAdd, decide_true, decide_false, Int.reduceAdd, Int.reduceSub, beq_self_eq_true, Bool.false_eq_true, if_false, if_true, hc, rd, s2_0, s2_1, s3_0, s3_1, s3_2, s4_0, s4_1, s4_2, s4_3, s5_0, s5_1, s5_2, s5_3, s5_4, f1, f2, g1, g2, w_part_less, w_part_part, w_part_add, w_part_take, j1, dv, x_glob, ab, q2]
    · rw [if_pos rfl]
      refine .inl ?_
      simp only [F_value_of_sum, x_str, x_int, x_var, x_bin, x_cmp, x_bl, x_sub, x_slc, x_call, x_tup, x_lst, x_dct, x_and, x_or, x_not, x_isi, x_bfn, xs_nil, xs_cons, bind_ok, d_val, d_own, d_bor, c_eqi, c_eqs, c_lt, c_le, c_gt, c_ge, bl_val, cell_val, cell_own, cell_lent, cell_bor, vas_nil, vas_cons, va_val, va_own, b_add, b_sub, and_nil, or_nil, q_and, q_or, q_at, q_af, q_ot, q_of, c_ind, c_nind, pu_nil, mg_nil, q_an, q_on, c_nes, c_neb, c_eqb, Bool.not_true, Bool.not_false, q_cons, q_nx, q_ret, q_if, q_tt, q_ff, ss_nil, ss_frz, s_asg, s_ret, out_ok, give_val, give_own, fin_ret, fin_nx, ret_val, ret_own, frz_own, frz_val, frz_bor, List.getD_cons_zero, List.getD_cons_succ, startE, List.map_cons, List.map_nil, List.length_cons, List.length_nil, List.replicate, List.cons_append, List.nil_append, List.getElem?_cons_zero, List.getElem?_cons_succ, List.set_cons_zero, List.set_cons_succ, Nat.reduceSub, Nat.reduceAdd, decide_true, decide_false, Int.reduceAdd, Int.reduceSub, beq_self_eq_true, Bool.false_eq_true, if_false, if_true, hc, rd, s2_0, s2_1, s3_0, s3_1, s3_2, s4_0, s4_1, s4_2, s4_3, s5_0, s5_1, s5_2, s5_3, s5_4, f1, f2, g1, g2, w_less_less]
  rw [sum_start RT hw hr main.nb]
  exact main
theorem rk_sum_l (RT : RkT T io r nm sm if_ fl wi ca ag po cl) {w : Str} {a b : D} {x : Str} {n1 : Nat} (hw : sumW w) (ha : Rk T r dl ns a (.exc x) n1) : Rk T r dl ns (.tup [.str w, a, b]) (.exc x) (n1 + 2) := by
  intro k hk rv hr
  obtain ⟨c, hc, rd, ec⟩ := id hr
  obtain ⟨k', e⟩ : ∃ k', k = k' + 2 := ⟨k - 2, by omega⟩
  subst e
  have f1 : callN T k' r [.val (.lst dl), rv, .val a] = .exc x := ha k' (by omega) rv hr
  have main : callN T (k' + 1) sm [.val (.lst dl), rv, .val (.tup [.str w, a, b])] = .exc x := by
    rw [call_fin T k' sm _ _ RT.hsm rfl, sum_e0 ec]
    simp only [F_value_of_sum, x_str, x_int, x_var, x_bin, x_cmp, x_bl, x_sub, x_slc, x_call, x_tup, x_lst, x_dct, x_and, x_or, x_not, x_isi, x_bfn, xs_nil, xs_cons, bind_ok, d_val, d_own, d_bor, c_eqi, c_eqs, c_lt, c_le, c_gt, c_ge, bl_val, cell_val, cell_own, cell_lent, cell_bor, vas_nil, vas_cons, va_val, va_own, b_add, b_sub, and_nil, or_nil, q_and, q_or, q_at, q_af, q_ot, q_of, c_ind, c_nind, pu_nil, mg_nil, q_an, q_on, c_nes, c_neb, c_eqb, Bool.not_true, Bool.not_false, q_cons, q_nx, q_ret, q_if, q_tt, q_ff, ss_nil, ss_frz, s_asg, s_ret, out_ok, give_val, give_own, fin_ret, fin_nx, ret_val, ret_own, frz_own, frz_val, frz_bor, List.getD_cons_zero, List.getD_cons_succ, startE, List.map_cons, List.map_nil, List.length_cons, List.length_nil, List.replicate, List.cons_append, List.nil_append, List.getElem?_cons_zero, List.getElem?_cons_succ, List.set_cons_zero, List.set_cons_succ, Nat.reduceSub, Nat.reduceAdd, decide_true, decide_false, Int.reduceAdd, Int.reduceSub, beq_self_eq_true, Bool.false_eq_true, if_false, if_true, hc, rd, s2_0, s2_1, s3_0, s3_1, s3_2, s4_0, s4_1, s4_2, s4_3, s5_0, s5_1, s5_2, s5_3, s5_4, f1, bind_exc, out_exc, q_exc, fin_exc]
  show callN _ _ _ _ = _
  rw [sum_start RT hw hr (by rw [main]; exact fun d z => by cases z), main]
theorem rk_sum_r (RT : RkT T io r nm sm if_ fl wi ca ag po cl) {w : Str} {a b v : D} {x : Str} {n1 n2 : Nat} (hw : sumW w) (ha : Rk T r dl ns a (.ok v) n1) (hb : Rk T r dl ns b (.exc x) n2) : Rk T r dl ns (.tup [.str w, a, b]) (.exc x) (max n1 n2 + 2) := by
  intro k hk rv hr
  obtain ⟨c, hc, rd, ec⟩ := id hr
  obtain ⟨k', e⟩ : ∃ k', k = k' + 2 := ⟨k - 2, by omega⟩
  subst e
  obtain ⟨r1, f1, h1⟩ := (ha k' (by omega) rv hr).two
  have f2 : callN T k' r [.val (.lst dl), rv, .val b] = .exc x := hb k' (by omega) rv hr
  have main : callN T (k' + 1) sm [.val (.lst dl), rv, .val (.tup [.str w, a, b])] = .exc x := by
    rw [call_fin T k' sm _ _ RT.hsm rfl, sum_e0 ec]
    rcases h1 with e | e <;> subst e <;> simp only [F_value_of_sum, x_str, x_int, x_var, x_bin, x_cmp, x_bl, x_sub, x_slc, x_call, x_tup, x_lst, x_dct, x_and, x_or, x_not, x_isi, x_bfn, xs_nil, xs_cons, bind_ok, d_val, d_own, d_bor, c_eqi, c_eqs, c_lt, c_le, c_gt, c_ge, bl_val, cell_val, cell_own, cell_lent, cell_bor, vas_nil, vas_cons, va_val, va_own, b_add, b_sub, and_nil, or_nil, q_and, q_or, q_at, q_af, q_ot, q_of, c_ind, c_nind, pu_nil, mg_nil, q_an, q_on, c_nes, c_neb, c_eqb, Bool.not_true, Bool.not_false, q_cons, q_nx, q_ret, q_if, q_tt, q_ff, ss_nil, ss_frz, s_asg, s_ret, out_ok, give_val, give_own, fin_ret, fin_nx, ret_val, ret_own, frz_own, frz_val, frz_bor, List.getD_cons_zero, List.getD_cons_succ, startE, List.map_cons, List.map_nil, List.length_cons, List.length_nil, List.replicate, List.cons_append, List.nil_append, List.getElem?_cons_zero, List.getElem?_cons_succ, List.set_cons_zero, List.set_cons_succ, Nat.reduceSub, Nat.reduceAdd, decide_true, decide_false, Int.reduceAdd, Int.reduceSub, beq_self_eq_true, Bool.false_eq_true, if_false, if_true, hc, rd, s2_0, s2_1, s3_0, s3_1, s3_2, s4_0, s4_1, s4_2, s4_3, s5_0, s5_1, s5_2, s5_3, s5_4, f1, f2, bind_exc, out_exc, q_exc, fin_exc]
  show callN _ _ _ _ = _
  rw [sum_start RT hw hr (by rw [main]; exact fun d z => by cases z), main]
/-! ### a record's field -/
theorem rk_field (RT : RkT T io r nm sm if_ fl wi ca ag po cl) {a : D} {ks : List (Str × D)} {f : Str} {n1 : Nat} (ha : Rk T r dl ns a (.ok (.dct ks)) n1) : Rk T r dl ns (.tup [.str "field", a, .str f]) (match look ks f with
    | some v => .ok v
    | none => .exc "LostField") (n1 + 2) := by
  intro k hk rv hr
  obtain ⟨c, hc, rd, ec⟩ := id hr
  obtain ⟨k', e⟩ : ∃ k', k = k' + 2 := ⟨k - 2, by omega⟩
  subst e
  obtain ⟨r1, f1, h1⟩ := (ha k' (by omega) rv hr).two
  have e0 : startE (F_value_of_field r).N.length [.val (.lst dl), rv, .val (.tup [.str "field", a, .str f])] = [.val (.lst dl), c, .val (.tup [.str "field", a, .str f]), .no] := by
    rw [← ec]; rfl
  have td : ([Ty.dict].any (D.dct ks).isTy) = true := rfl
  have main : RkO (callN T (k' + 1) fl [.val (.lst dl), rv, .val (.tup [.str "field", a, .str f])]) (match look ks f with
    | some v => .ok v
    | none => .exc "LostField") := by
    rw [call_fin T k' fl _ _ RT.hfl rfl, e0]
    cases q : look ks f with
    | some v =>
      have h0 : has ks f = true := by rw [has_look, q]; rfl
      refine .inl ?_
      rcases h1 with e | e <;> subst e <;> simp only [F_value_of_field, x_str, x_int, x_var, x_bin, x_cmp, x_bl, x_sub, x_slc, x_call, x_tup, x_lst, x_dct, x_and, x_or, x_not, x_isi, x_bfn, xs_nil, xs_cons, bind_ok, d_val, d_own, d_bor, c_eqi, c_eqs, c_lt, c_le, c_gt, c_ge, bl_val, cell_val, cell_own, cell_lent, cell_bor, vas_nil, vas_cons, va_val, va_own, b_add, b_sub, and_nil, or_nil, q_and, q_or, q_at, q_af, q_ot, q_of, c_ind, c_nind, pu_nil, mg_nil, q_an, q_on, c_nes, c_neb, c_eqb, Bool.not_true, Bool.not_false, q_cons, q_nx, q_ret, q_if, q_tt, q_ff, ss_nil, ss_frz, s_asg, s_ret, out_ok, give_val, give_own, fin_ret, fin_nx, ret_val, ret_own, frz_own, frz_val, frz_bor, List.getD_cons_zero, List.getD_cons_succ, startE, List.map_cons, List.map_nil, List.length_cons, List.length_nil, List.replicate, List.cons_append, List.nil_append, List.getElem?_cons_zero, List.getElem?_cons_succ, List.set_cons_zero, List.set_cons_succ, Nat.reduceSub, Nat.reduceAdd, decide_true, decide_false, Int.reduceAdd, Int.reduceSub, beq_self_eq_true, Bool.false_eq_true, if_false, if_true, hc, rd, s2_0, s2_1, s3_0, s3_1, s3_2, s4_0, s4_1, s4_2, s4_3, s5_0, s5_1, s5_2, s5_3, s5_4, f1, td, h0, sub_dct q]
    | none =>
      have h0 : has ks f = false := by rw [has_look, q]; rfl
      show _ = _
      rcases h1 with e | e <;> subst e <;> simp only [F_value_of_field, x_str, x_int, x_var, x_bin, x_cmp, x_bl, x_sub, x_slc, x_call, x_tup, x_lst, x_dct, x_and, x_or, x_not, x_isi, x_bfn, xs_nil, xs_cons, bind_ok, d_val, d_own, d_bor, c_eqi, c_eqs, c_lt, c_le, c_gt, c_ge, bl_val, cell_val, cell_own, cell_lent, cell_bor, vas_nil, vas_cons, va_val, va_own, b_add, b_sub, and_nil, or_nil, q_and, q_or, q_at, q_af, q_ot, q_of, c_ind, c_nind, pu_nil, mg_nil, q_an, q_on, c_nes, c_neb, c_eqb, Bool.not_true, Bool.not_false, q_cons, q_nx, q_ret, q_if, q_tt, q_ff, ss_nil, ss_frz, s_asg, s_ret, out_ok, give_val, give_own, fin_ret, fin_nx, ret_val, ret_own, frz_own, frz_val, frz_bor, List.getD_cons_zero, List.getD_cons_succ, startE, List.map_cons, List.map_nil, List.length_cons, List.length_nil, List.replicate, List.cons_append, List.nil_append, List.getElem?_cons_zero, List.getElem?_cons_succ, List.set_cons_zero, List.set_cons_succ, Nat.reduceSub, Nat.reduceAdd, decide_true, decide_false, Int.reduceAdd, Int.reduceSub, beq_self_eq_true, Bool.false_eq_true, if_false, if_true, hc, rd, s2_0, s2_1, s3_0, s3_1, s3_2, s4_0, s4_1, s4_2, s4_3, s5_0, s5_1, s5_2, s5_3, s5_4, f1, td, h0, s_rais, q_exc, fin_exc]
  have st : callN T (k' + 1 + 1) r [.val (.lst dl), rv, .val (.tup [.str "field", a, .str f])] = callN T (k' + 1) fl [.val (.lst dl), rv, .val (.tup [.str "field", a, .str f])] := by
    rw [rk_start RT ec]
    simp only [F_reckoned, x_str, x_int, x_var, x_bin, x_cmp, x_bl, x_sub, x_slc, x_call, x_tup, x_lst, x_dct, x_and, x_or, x_not, x_isi, x_bfn, xs_nil, xs_cons, bind_ok, d_val, d_own, d_bor, c_eqi, c_eqs, c_lt, c_le, c_gt, c_ge, bl_val, cell_val, cell_own, cell_lent, cell_bor, vas_nil, vas_cons, va_val, va_own, b_add, b_sub, and_nil, or_nil, q_and, q_or, q_at, q_af, q_ot, q_of, c_ind, c_nind, pu_nil, mg_nil, q_an, q_on, c_nes, c_neb, c_eqb, Bool.not_true, Bool.not_false, q_cons, q_nx, q_ret, q_if, q_tt, q_ff, ss_nil, ss_frz, s_asg, s_ret, out_ok, give_val, give_own, fin_ret, fin_nx, ret_val, ret_own, frz_own, frz_val, frz_bor, List.getD_cons_zero, List.getD_cons_succ, startE, List.map_cons, List.map_nil, List.length_cons, List.length_nil, List.replicate, List.cons_append, List.nil_append, List.getElem?_cons_zero, List.getElem?_cons_succ, List.set_cons_zero, List.set_cons_succ, Nat.reduceSub, Nat.reduceAdd, decide_true, decide_false, Int.reduceAdd, Int.reduceSub, beq_self_eq_true, Bool.false_eq_true, if_false, if_true, hc, rd, s2_0, s2_1, s3_0, s3_1, s3_2, s4_0, s4_1, s4_2, s4_3, s5_0, s5_1, s5_2, s5_3, s5_4, w_field_num, w_field_truth, w_field_name, w_field_add, w_field_take, w_field_part, w_field_less, w_field_let, w_field_if, w_field_record, w_field_field, q_retout2]
    exact fin_pass main.nb
  rw [st]
  exact main
/-! ### with -/
theorem rk_with (RT : RkT T io r nm sm if_ fl wi ca ag po cl) {a b v : D} {ks : List (Str × D)} {f : Str} {n1 n2 : Nat} (ha : Rk T r dl ns a (.ok (.dct ks)) n1) (hb : Rk T r dl ns b (.ok v) n2) (hl : ks.length < lim) : Rk T r dl ns (.tup [.str "with", a, .str f, b]) (.ok (.dct (put ks f v))) (max (max n1 n2) 1 + 2) := by
  intro k hk rv hr
  obtain ⟨c, hc, rd, ec⟩ := id hr
  obtain ⟨k', e⟩ : ∃ k', k = k' + 3 := ⟨k - 3, by omega⟩
  subst e
  obtain ⟨r1, f1, h1⟩ := (ha (k' + 1) (by omega) rv hr).two
  obtain ⟨r2, f2, h2⟩ := (hb (k' + 1) (by omega) rv hr).two
  have e0 : startE (F_value_of_with nm r).N.length [.val (.lst dl), rv, .val (.tup [.str "with", a, .str f, b])] = [.val (.lst dl), c, .val (.tup [.str "with", a, .str f, b]), .no, .no] := by
    rw [← ec]; rfl
  have td : ([Ty.dict].any (D.dct ks).isTy) = true := rfl
  have nv := named_ok (n := k') RT.hnm (held_val (.dct ks)) hl f v
  have nb := named_ok (n := k') RT.hnm (held_bor (.dct ks)) hl f v
  have main : callN T (k' + 2) wi [.val (.lst dl), rv, .val (.tup [.str "with", a, .str f, b])] = .ok (.own (.dct (put ks f v))) := by
    rw [call_fin T (k' + 1) wi _ _ RT.hwi rfl, e0]
    rcases h1 with e | e <;> subst e <;> rcases h2 with e | e <;> subst e <;> simp only [F_value_of_with, x_str, x_int, x_var, x_bin, x_cmp, x_bl, x_sub, x_slc, x_call, x_tup, x_lst, x_dct, x_and, x_or, x_not, x_isi, x_bfn, xs_nil, xs_cons, bind_ok, d_val, d_own, d_bor, c_eqi, c_eqs, c_lt, c_le, c_gt, c_ge, bl_val, cell_val, cell_own, cell_lent, cell_bor, vas_nil, vas_cons, va_val, va_own, b_add, b_sub, and_nil, or_nil, q_and, q_or, q_at, q_af, q_ot, q_of, c_ind, c_nind, pu_nil, mg_nil, q_an, q_on, c_nes, c_neb, c_eqb, Bool.not_true, Bool.not_false, q_cons, q_nx, q_ret, q_if, q_tt, q_ff, ss_nil, ss_frz, s_asg, s_ret, out_ok, give_val, give_own, fin_ret, fin_nx, ret_val, ret_own, frz_own, frz_val, frz_bor, List.getD_cons_zero, List.getD_cons_succ, startE, List.map_cons, List.map_nil, List.length_cons, List.length_nil, List.replicate, List.cons_append, List.nil_append, List.getElem?_cons_zero, List.getElem?_cons_succ, List.set_cons_zero, List.set_cons_succ, Nat.reduceSub, Nat.reduceAdd, decide_true, decide_false, Int.reduceAdd, Int.reduceSub, beq_self_eq_true, Bool.false_eq_true, if_false, if_true, hc, rd, s2_0, s2_1, s3_0, s3_1, s3_2, s4_0, s4_1, s4_2, s4_3, s5_0, s5_1, s5_2, s5_3, s5_4, f1, f2, td, nv, nb]
  refine .inr ⟨_, rfl, ?_⟩
  rw [rk_start RT ec]
  simp only [F_reckoned, x_str, x_int, x_var, x_bin, x_cmp, x_bl, x_sub, x_slc, x_call, x_tup, x_lst, x_dct, x_and, x_or, x_not, x_isi, x_bfn, xs_nil, xs_cons, bind_ok, d_val, d_own, d_bor, c_eqi, c_eqs, c_lt, c_le, c_gt, c_ge, bl_val, cell_val, cell_own, cell_lent, cell_bor, vas_nil, vas_cons, va_val, va_own, b_add, b_sub, and_nil, or_nil, q_and, q_or, q_at, q_af, q_ot, q_of, c_ind, c_nind, pu_nil, mg_nil, q_an, q_on, c_nes, c_neb, c_eqb, Bool.not_true, Bool.not_false, q_cons, q_nx, q_ret, q_if, q_tt, q_ff, ss_nil, ss_frz, s_asg, s_ret, out_ok, give_val, give_own, fin_ret, fin_nx, ret_val, ret_own, frz_own, frz_val, frz_bor, List.getD_cons_zero, List.getD_cons_succ, startE, List.map_cons, List.map_nil, List.length_cons, List.length_nil, List.replicate, List.cons_append, List.nil_append, List.getElem?_cons_zero, List.getElem?_cons_succ, List.set_cons_zero, List.set_cons_succ, Nat.reduceSub, Nat.reduceAdd, decide_true, decide_false, Int.reduceAdd, Int.reduceSub, beq_self_eq_true, Bool.false_eq_true, if_false, if_true, hc, rd, s2_0, s2_1, s3_0, s3_1, s3_2, s4_0, s4_1, s4_2, s4_3, s5_0, s5_1, s5_2, s5_3, s5_4, w_with_num, w_with_truth, w_with_name, w_with_add, w_with_take, w_with_part, w_with_less, w_with_let, w_with_if, w_with_record, w_with_field, w_with_with, main]
/-! ### record -/
theorem comp_map2 {A : Type} {one : D → Rs (Option D)} {f g : A → D} : ∀ {its : List A}, (∀ a, a ∈ its → one (f a) = .ok (some (g a))) → compL one (its.map f) = .ok (its.map g)
  | [], _ => rfl
  | a :: r, h => by
    rw [List.map_cons, List.map_cons]
    unfold compL
    rw [h a List.mem_cons_self, bind_ok, comp_map2 fun x hx => h x (List.mem_cons_of_mem _ hx)]
    rfl
theorem pairs_map {A : Type} {f : A → Str} {g : A → D} : ∀ {its : List A}, pairsOf (its.map fun a => D.tup [.str (f a), g a]) = .ok (its.map fun a => (f a, g a))
  | [] => rfl
  | a :: r => by
    rw [List.map_cons, List.map_cons]
    show (pairsOf (r.map fun a => D.tup [.str (f a), g a])).bind _ = _
    rw [pairs_map]
    rfl
/-- a row of a record: its field, its tree, its value -/
abbrev Row := Str × D × D
def Row.t (p : Row) : D := .tup [.str p.1, p.2.1]
theorem rk_record (RT : RkT T io r nm sm if_ fl wi ca ag po cl) {rows : List Row} {n1 : Nat} (h : ∀ p, p ∈ rows → Rk T r dl ns p.2.1 (.ok p.2.2) n1) (hl : rows.length ≤ lim) :
    Rk T r dl ns (.tup [.str "record", .lst (rows.map Row.t)]) (.ok (.dct (merge [] (rows.map fun p => (p.1, p.2.2))))) (n1 + 1) := by
  intro k hk rv hr
  obtain ⟨c, hc, rd, ec⟩ := id hr
  obtain ⟨k', e⟩ : ∃ k', k = k' + 1 := ⟨k - 1, by omega⟩
  subst e
  refine .inr ⟨_, rfl, ?_⟩
  rw [rk_start RT ec]
  have it1 : evIt (callN T k') T.sub [.val (.lst dl), c, .val (.tup [.str "record", .lst (rows.map Row.t)]), .val (.str "record"), .no] (.ex (.sub (.var 2) (.cint 1))) = .ok (rows.map Row.t) := by
    rw [i_ex]
    simp only [x_str, x_int, x_var, x_bin, x_cmp, x_bl, x_sub, x_slc, x_call, x_tup, x_lst, x_dct, x_and, x_or, x_not, x_isi, x_bfn, xs_nil, xs_cons, bind_ok, d_val, d_own, d_bor, c_eqi, c_eqs, c_lt, c_le, c_gt, c_ge, bl_val, cell_val, cell_own, cell_lent, cell_bor, vas_nil, vas_cons, va_val, va_own, b_add, b_sub, and_nil, or_nil, q_and, q_or, q_at, q_af, q_ot, q_of, c_ind, c_nind, pu_nil, mg_nil, q_an, q_on, c_nes, c_neb, c_eqb, Bool.not_true, Bool.not_false, q_cons, q_nx, q_ret, q_if, q_tt, q_ff, ss_nil, ss_frz, s_asg, s_ret, out_ok, give_val, give_own, fin_ret, fin_nx, ret_val, ret_own, frz_own, frz_val, frz_bor, List.getD_cons_zero, List.getD_cons_succ, startE, List.map_cons, List.map_nil, List.length_cons, List.length_nil, List.replicate, List.cons_append, List.nil_append, List.getElem?_cons_zero, List.getElem?_cons_succ, List.set_cons_zero, List.set_cons_succ, Nat.reduceSub, Nat.reduceAdd, decide_true, decide_false, Int.reduceAdd, Int.reduceSub, beq_self_eq_true, Bool.false_eq_true, if_false, if_true, s2_0, s2_1, s3_0, s3_1, s3_2, s4_0, s4_1, s4_2, s4_3, s5_0, s5_1, s5_2, s5_3, s5_4]
    show itemsOf (.val (.lst _)) = _
    unfold itemsOf
    show (if (rows.map Row.t).length ≤ lim then Rs.ok _ else Rs.stuck) = _
    rw [if_pos (by rw [List.length_map]; exact hl)]
  have ec2 : evX (callN T k') T.sub [.val (.lst dl), c, .val (.tup [.str "record", .lst (rows.map Row.t)]), .val (.str "record"), .no] (.comp (.tup (.cons (.sub (.var 4) (.cint 0)) (.cons (.call r (.cons (.var 0) (.cons (.var 1) (.cons (.sub (.var 4) (.cint 1)) .nil)))) .nil))) [4] (.ex (.sub (.var 2) (.cint 1))) (.cbl true)) = .ok (.own (.lst (rows.map fun p => D.tup [.str p.1, p.2.2]))) := by
    rw [x_comp, it1, bind_ok, if_pos (by rw [List.length_map]; exact hl)]
    rw [comp_map2 (f := Row.t) (g := fun p => D.tup [.str p.1, p.2.2]) fun p hp => ?_]
    · rfl
    · obtain ⟨r1, f1, h1⟩ := (h p hp k' (by omega) rv hr).two
      have hs : List.set (wipeS [4] [.val (.lst dl), c, .val (.tup [.str "record", .lst (rows.map Row.t)]), .val (.str "record"), .no]) 4 (.val p.t) = [.val (.lst dl), c, .val (.tup [.str "record", .lst (rows.map Row.t)]), .val (.str "record"), .val p.t] := rfl
      rw [set_one, bind_ok, x_bl, bind_ok, bl_val, bind_ok, if_pos rfl, hs]
      unfold Row.t at *
      rcases h1 with e | e <;> subst e <;> simp only [x_str, x_int, x_var, x_bin, x_cmp, x_bl, x_sub, x_slc, x_call, x_tup, x_lst, x_dct, x_and, x_or, x_not, x_isi, x_bfn, xs_nil, xs_cons, bind_ok, d_val, d_own, d_bor, c_eqi, c_eqs, c_lt, c_le, c_gt, c_ge, bl_val, cell_val, cell_own, cell_lent, cell_bor, vas_nil, vas_cons, va_val, va_own, b_add, b_sub, and_nil, or_nil, q_and, q_or, q_at, q_af, q_ot, q_of, c_ind, c_nind, pu_nil, mg_nil, q_an, q_on, c_nes, c_neb, c_eqb, Bool.not_true, Bool.not_false, q_cons, q_nx, q_ret, q_if, q_tt, q_ff, ss_nil, ss_frz, s_asg, s_ret, out_ok, give_val, give_own, fin_ret, fin_nx, ret_val, ret_own, frz_own, frz_val, frz_bor, List.getD_cons_zero, List.getD_cons_succ, startE, List.map_cons, List.map_nil, List.length_cons, List.length_nil, List.replicate, List.cons_append, List.nil_append, List.getElem?_cons_zero, List.getElem?_cons_succ, List.set_cons_zero, List.set_cons_succ, Nat.reduceSub, Nat.reduceAdd, decide_true, decide_false, Int.reduceAdd, Int.reduceSub, beq_self_eq_true, Bool.false_eq_true, if_false, if_true, hc, s2_0, s2_1, s3_0, s3_1, s3_2, s4_0, s4_1, s4_2, s4_3, s5_0, s5_1, s5_2, s5_3, s5_4, f1, noX_ok]
  have dp : bfnop .dict1 [.lst (rows.map fun p => D.tup [.str p.1, p.2.2])] = .ok (.own (.dct (merge [] (rows.map fun p => (p.1, p.2.2))))) := by
    show (if (rows.map fun p : Row => D.tup [.str p.1, p.2.2]).length ≤ lim then (pairsOf _).bind fun l => Rs.ok (RV.own (.dct (merge [] l))) else Rs.stuck) = _
    rw [if_pos (by rw [List.length_map]; exact hl), pairs_map]
    rfl
  simp only [F_reckoned, x_str, x_int, x_var, x_bin, x_cmp, x_bl, x_sub, x_slc, x_call, x_tup, x_lst, x_dct, x_and, x_or, x_not, x_isi, x_bfn, xs_nil, xs_cons, bind_ok, d_val, d_own, d_bor, c_eqi, c_eqs, c_lt, c_le, c_gt, c_ge, bl_val, cell_val, cell_own, cell_lent, cell_bor, vas_nil, vas_cons, va_val, va_own, b_add, b_sub, and_nil, or_nil, q_and, q_or, q_at, q_af, q_ot, q_of, c_ind, c_nind, pu_nil, mg_nil, q_an, q_on, c_nes, c_neb, c_eqb, Bool.not_true, Bool.not_false, q_cons, q_nx, q_ret, q_if, q_tt, q_ff, ss_nil, ss_frz, s_asg, s_ret, out_ok, give_val, give_own, fin_ret, fin_nx, ret_val, ret_own, frz_own, frz_val, frz_bor, List.getD_cons_zero, List.getD_cons_succ, startE, List.map_cons, List.map_nil, List.length_cons, List.length_nil, List.replicate, List.cons_append, List.nil_append, List.getElem?_cons_zero, List.getElem?_cons_succ, List.set_cons_zero, List.set_cons_succ, Nat.reduceSub, Nat.reduceAdd, decide_true, decide_false, Int.reduceAdd, Int.reduceSub, beq_self_eq_true, Bool.false_eq_true, if_false, if_true, hc, rd, s2_0, s2_1, s3_0, s3_1, s3_2, s4_0, s4_1, s4_2, s4_3, s5_0, s5_1, s5_2, s5_3, s5_4, w_record_num, w_record_truth, w_record_name, w_record_add, w_record_take, w_record_part, w_record_less, w_record_let, w_record_if, w_record_record, ec2, dp]
/-! ### case -/
abbrev CRow := Str × Str × D
def CRow.t (p : CRow) : D := .tup [.str p.1, .str p.2.1, p.2.2]
theorem rk_case (RT : RkT T io r nm sm if_ fl wi ca ag po cl) {a v t : D} {s x : Str} {pre post : List CRow} {res : Rs D} {n1 n2 : Nat} (ha : Rk T r dl ns a (.ok (.tup [.str s, v])) n1) (hp : ∀ p, p ∈ pre → p.1 ≠ s) (hb : Rk T r dl (put ns x v) t res n2) (hl : ns.length < lim) (hr0 : (pre ++ (s, x, t) :: post).length ≤ lim) :
    Rk T r dl ns (.tup [.str "case", a, .lst ((pre ++ (s, x, t) :: post).map CRow.t)]) res (max (max n1 n2) 1 + 2) := by
  intro k hk rv hr
  obtain ⟨c, hc, rd, ec⟩ := id hr
  obtain ⟨k', e⟩ : ∃ k', k = k' + 3 := ⟨k - 3, by omega⟩
  subst e
  have f1 : callN T (k' + 1) r [.val (.lst dl), rv, .val a] = .ok (.val (.tup [.str s, v])) := (ha (k' + 1) (by omega) rv hr).plain fun _ z => by cases z
  have f2 := hb (k' + 1) (by omega) (.val (.dct (put ns x v))) (held_val _)
  have nm_ := named_ok (n := k') RT.hnm hr hl x v
  generalize hR : (pre ++ (s, x, t) :: post).map CRow.t = R at *
  have hRl : R.length ≤ lim := by rw [← hR, List.length_map]; exact hr0
  have e0 : startE (F_value_of_case nm r).N.length [.val (.lst dl), rv, .val (.tup [.str "case", a, .lst R])] = [.val (.lst dl), c, .val (.tup [.str "case", a, .lst R]), .no, .no] := by
    rw [← ec]; rfl
  have tt : ([Ty.tuple].any (D.tup [.str s, v]).isTy) = true := rfl
  have it1 : evIt (callN T (k' + 1)) T.sub [.val (.lst dl), c, .val (.tup [.str "case", a, .lst R]), .val (.tup [.str s, v]), .no] (.ex (.sub (.var 2) (.cint 2))) = .ok R := by
    rw [i_ex]
    simp only [x_str, x_int, x_var, x_bin, x_cmp, x_bl, x_sub, x_slc, x_call, x_tup, x_lst, x_dct, x_and, x_or, x_not, x_isi, x_bfn, xs_nil, xs_cons, bind_ok, d_val, d_own, d_bor, c_eqi, c_eqs, c_lt, c_le, c_gt, c_ge, bl_val, cell_val, cell_own, cell_lent, cell_bor, vas_nil, vas_cons, va_val, va_own, b_add, b_sub, and_nil, or_nil, q_and, q_or, q_at, q_af, q_ot, q_of, c_ind, c_nind, pu_nil, mg_nil, q_an, q_on, c_nes, c_neb, c_eqb, Bool.not_true, Bool.not_false, q_cons, q_nx, q_ret, q_if, q_tt, q_ff, ss_nil, ss_frz, s_asg, s_ret, out_ok, give_val, give_own, fin_ret, fin_nx, ret_val, ret_own, frz_own, frz_val, frz_bor, List.getD_cons_zero, List.getD_cons_succ, startE, List.map_cons, List.map_nil, List.length_cons, List.length_nil, List.replicate, List.cons_append, List.nil_append, List.getElem?_cons_zero, List.getElem?_cons_succ, List.set_cons_zero, List.set_cons_succ, Nat.reduceSub, Nat.reduceAdd, decide_true, decide_false, Int.reduceAdd, Int.reduceSub, beq_self_eq_true, Bool.false_eq_true, if_false, if_true, s2_0, s2_1, s3_0, s3_1, s3_2, s4_0, s4_1, s4_2, s4_3, s5_0, s5_1, s5_2, s5_3, s5_4]
    show itemsOf (.val (.lst _)) = _
    unfold itemsOf
    show (if R.length ≤ lim then Rs.ok _ else Rs.stuck) = _
    rw [if_pos hRl]
  obtain ⟨z, hz⟩ : ∃ z, z = callN T (k' + 1) r [.val (.lst dl), .val (.dct (put ns x v)), .val t] := ⟨_, rfl⟩
  rw [← hz] at f2
  have loop : ∀ (pre : List CRow) (c4 : Cel), (∀ p, p ∈ pre → p.1 ≠ s) → ∃ X4 e4, loopF (fun d e' => (setT [4] d e').out e' fun e2 => evSs (callN T (k' + 1)) T.sub e2 (B_value_of_case_0 nm r)) ((pre ++ (s, x, t) :: post).map CRow.t) [.val (.lst dl), c, .val (.tup [.str "case", a, .lst R]), .val (.tup [.str s, v]), c4] = ((z.bind (retR e4 X4)).out e4 fun r => .ret r) := by
    intro pre
    induction pre with
    | nil =>
      intro c4 _
      have st : ((setT [4] (CRow.t (s, x, t)) [.val (.lst dl), c, .val (.tup [.str "case", a, .lst R]), .val (.tup [.str s, v]), c4]).out [.val (.lst dl), c, .val (.tup [.str "case", a, .lst R]), .val (.tup [.str s, v]), c4] fun e2 => evSs (callN T (k' + 1)) T.sub e2 (B_value_of_case_0 nm r)) =
          ((z.bind (retR [.val (.lst dl), c, .val (.tup [.str "case", a, .lst R]), .val (.tup [.str s, v]), .val (CRow.t (s, x, t))] (.call r (.cons (.var 0) (.cons (.call nm (.cons (.var 1) (.cons (.sub (.var 4) (.cint 1)) (.cons (.sub (.var 3) (.cint 1)) .nil)))) (.cons (.sub (.var 4) (.cint 2)) .nil)))))).out [.val (.lst dl), c, .val (.tup [.str "case", a, .lst R]), .val (.tup [.str s, v]), .val (CRow.t (s, x, t))] fun r => .ret r) := by
        rw [set_one, out_ok]
        show evSs _ _ [.val (.lst dl), c, .val (.tup [.str "case", a, .lst R]), .val (.tup [.str s, v]), .val (CRow.t (s, x, t))] _ = _
        unfold B_value_of_case_0 CRow.t
        have dd : decide (s = s) = true := decide_eq_true rfl
        simp only [x_str, x_int, x_var, x_bin, x_cmp, x_bl, x_sub, x_slc, x_call, x_tup, x_lst, x_dct, x_and, x_or, x_not, x_isi, x_bfn, xs_nil, xs_cons, bind_ok, d_val, d_own, d_bor, c_eqi, c_eqs, c_lt, c_le, c_gt, c_ge, bl_val, cell_val, cell_own, cell_lent, cell_bor, vas_nil, vas_cons, va_val, va_own, b_add, b_sub, and_nil, or_nil, q_and, q_or, q_at, q_af, q_ot, q_of, c_ind, c_nind, pu_nil, mg_nil, q_an, q_on, c_nes, c_neb, c_eqb, Bool.not_true, Bool.not_false, q_cons, q_nx, q_ret, q_if, q_tt, q_ff, ss_nil, ss_frz, s_asg, s_ret, out_ok, give_val, give_own, fin_ret, fin_nx, ret_val, ret_own, frz_own, frz_val, frz_bor, List.getD_cons_zero, List.getD_cons_succ, startE, List.map_cons, List.map_nil, List.length_cons, List.length_nil, List.replicate, List.cons_append, List.nil_append, List.getElem?_cons_zero, List.getElem?_cons_succ, List.set_cons_zero, List.set_cons_succ, Nat.reduceSub, Nat.reduceAdd, decide_true, decide_false, Int.reduceAdd, Int.reduceSub, beq_self_eq_true, Bool.false_eq_true, if_false, if_true, hc, s2_0, s2_1, s3_0, s3_1, s3_2, s4_0, s4_1, s4_2, s4_3, s5_0, s5_1, s5_2, s5_3, s5_4, dd, nm_, call_own2, q_retout2, ← hz]
      refine ⟨(.call r (.cons (.var 0) (.cons (.call nm (.cons (.var 1) (.cons (.sub (.var 4) (.cint 1)) (.cons (.sub (.var 3) (.cint 1)) .nil)))) (.cons (.sub (.var 4) (.cint 2)) .nil)))), [.val (.lst dl), c, .val (.tup [.str "case", a, .lst R]), .val (.tup [.str s, v]), .val (CRow.t (s, x, t))], ?_⟩
      rw [List.nil_append, List.map_cons]
      unfold loopF
      rw [st]
      cases z with
      | stuck => rfl
      | exc c => rfl
      | ok q => cases q <;> rfl
    | cons p rest ih =>
      intro c4 h
      have st : ((setT [4] (CRow.t p) [.val (.lst dl), c, .val (.tup [.str "case", a, .lst R]), .val (.tup [.str s, v]), c4]).out [.val (.lst dl), c, .val (.tup [.str "case", a, .lst R]), .val (.tup [.str s, v]), c4] fun e2 => evSs (callN T (k' + 1)) T.sub e2 (B_value_of_case_0 nm r)) =
          .nx [.val (.lst dl), c, .val (.tup [.str "case", a, .lst R]), .val (.tup [.str s, v]), .val (CRow.t p)] := by
        rw [set_one, out_ok]
        show evSs _ _ [.val (.lst dl), c, .val (.tup [.str "case", a, .lst R]), .val (.tup [.str s, v]), .val (CRow.t p)] _ = _
        unfold B_value_of_case_0 CRow.t
        have dd : decide (p.1 = s) = false := decide_eq_false (h p List.mem_cons_self)
        simp only [x_str, x_int, x_var, x_bin, x_cmp, x_bl, x_sub, x_slc, x_call, x_tup, x_lst, x_dct, x_and, x_or, x_not, x_isi, x_bfn, xs_nil, xs_cons, bind_ok, d_val, d_own, d_bor, c_eqi, c_eqs, c_lt, c_le, c_gt, c_ge, bl_val, cell_val, cell_own, cell_lent, cell_bor, vas_nil, vas_cons, va_val, va_own, b_add, b_sub, and_nil, or_nil, q_and, q_or, q_at, q_af, q_ot, q_of, c_ind, c_nind, pu_nil, mg_nil, q_an, q_on, c_nes, c_neb, c_eqb, Bool.not_true, Bool.not_false, q_cons, q_nx, q_ret, q_if, q_tt, q_ff, ss_nil, ss_frz, s_asg, s_ret, out_ok, give_val, give_own, fin_ret, fin_nx, ret_val, ret_own, frz_own, frz_val, frz_bor, List.getD_cons_zero, List.getD_cons_succ, startE, List.map_cons, List.map_nil, List.length_cons, List.length_nil, List.replicate, List.cons_append, List.nil_append, List.getElem?_cons_zero, List.getElem?_cons_succ, List.set_cons_zero, List.set_cons_succ, Nat.reduceSub, Nat.reduceAdd, decide_true, decide_false, Int.reduceAdd, Int.reduceSub, beq_self_eq_true, Bool.false_eq_true, if_false, if_true, hc, s2_0, s2_1, s3_0, s3_1, s3_2, s4_0, s4_1, s4_2, s4_3, s5_0, s5_1, s5_2, s5_3, s5_4, dd]
      obtain ⟨X4, e4, q⟩ := ih (.val (CRow.t p)) fun y hy => h y (List.mem_cons_of_mem _ hy)
      refine ⟨X4, e4, ?_⟩
      rw [List.cons_append, List.map_cons]
      unfold loopF
      rw [st]
      exact q
  have main : callN T (k' + 2) ca [.val (.lst dl), rv, .val (.tup [.str "case", a, .lst R])] = z := by
    rw [call_fin T (k' + 1) ca _ _ RT.hca rfl, e0]
    have ez : evSs (callN T (k' + 1)) T.sub [.val (.lst dl), c, .val (.tup [.str "case", a, .lst R]), .no, .no] (F_value_of_case nm r).body =
        runSs (callN T (k' + 1)) T.sub (evS (callN T (k' + 1)) T.sub [.val (.lst dl), c, .val (.tup [.str "case", a, .lst R]), .val (.tup [.str s, v]), .no] (.forr [4] (.ex (.sub (.var 2) (.cint 2))) (B_value_of_case_0 nm r))) (R_value_of_case_0 nm r) := by
      simp only [F_value_of_case, x_str, x_int, x_var, x_bin, x_cmp, x_bl, x_sub, x_slc, x_call, x_tup, x_lst, x_dct, x_and, x_or, x_not, x_isi, x_bfn, xs_nil, xs_cons, bind_ok, d_val, d_own, d_bor, c_eqi, c_eqs, c_lt, c_le, c_gt, c_ge, bl_val, cell_val, cell_own, cell_lent, cell_bor, vas_nil, vas_cons, va_val, va_own, b_add, b_sub, and_nil, or_nil, q_and, q_or, q_at, q_af, q_ot, q_of, c_ind, c_nind, pu_nil, mg_nil, q_an, q_on, c_nes, c_neb, c_eqb, Bool.not_true, Bool.not_false, q_cons, q_nx, q_ret, q_if, q_tt, q_ff, ss_nil, ss_frz, s_asg, s_ret, out_ok, give_val, give_own, fin_ret, fin_nx, ret_val, ret_own, frz_own, frz_val, frz_bor, List.getD_cons_zero, List.getD_cons_succ, startE, List.map_cons, List.map_nil, List.length_cons, List.length_nil, List.replicate, List.cons_append, List.nil_append, List.getElem?_cons_zero, List.getElem?_cons_succ, List.set_cons_zero, List.set_cons_succ, Nat.reduceSub, Nat.reduceAdd, decide_true, decide_false, Int.reduceAdd, Int.reduceSub, beq_self_eq_true, Bool.false_eq_true, if_false, if_true, hc, rd, s2_0, s2_1, s3_0, s3_1, s3_2, s4_0, s4_1, s4_2, s4_3, s5_0, s5_1, s5_2, s5_3, s5_4, f1, tt]
    rw [ez, s_for, it1, out_ok]
    obtain ⟨X4, e4, q⟩ := loop pre .no hp
    rw [hR] at q
    show (runSs _ _ ((loopF _ R [.val (.lst dl), c, .val (.tup [.str "case", a, .lst R]), .val (.tup [.str s, v]), .no]).back _) _).fin = _
    rw [q]
    have nbz : NB z := f2.nb
    have zz : ∀ z : Rs RV, NB z → (runSs (callN T (k' + 1)) T.sub (((z.bind (retR e4 X4)).out e4 fun r => .ret r).back [.val (.lst dl), c, .val (.tup [.str "case", a, .lst R]), .val (.tup [.str s, v]), .no]) (R_value_of_case_0 nm r)).fin = z := fun z nb => by
      cases z with
      | stuck => rfl
      | exc c => rfl
      | ok q =>
        cases q with
        | val d => rfl
        | own d => rfl
        | bor d => exact absurd rfl (nb d)
    exact zz z nbz
  have st : callN T (k' + 2 + 1) r [.val (.lst dl), rv, .val (.tup [.str "case", a, .lst R])] = callN T (k' + 2) ca [.val (.lst dl), rv, .val (.tup [.str "case", a, .lst R])] := by
    rw [rk_start RT ec]
    simp only [F_reckoned, x_str, x_int, x_var, x_bin, x_cmp, x_bl, x_sub, x_slc, x_call, x_tup, x_lst, x_dct, x_and, x_or, x_not, x_isi, x_bfn, xs_nil, xs_cons, bind_ok, d_val, d_own, d_bor, c_eqi, c_eqs, c_lt, c_le, c_gt, c_ge, bl_val, cell_val, cell_own, cell_lent, cell_bor, vas_nil, vas_cons, va_val, va_own, b_add, b_sub, and_nil, or_nil, q_and, q_or, q_at, q_af, q_ot, q_of, c_ind, c_nind, pu_nil, mg_nil, q_an, q_on, c_nes, c_neb, c_eqb, Bool.not_true, Bool.not_false, q_cons, q_nx, q_ret, q_if, q_tt, q_ff, ss_nil, ss_frz, s_asg, s_ret, out_ok, give_val, give_own, fin_ret, fin_nx, ret_val, ret_own, frz_own, frz_val, frz_bor, List.getD_cons_zero, List.getD_cons_succ, startE, List.map_cons, List.map_nil, List.length_cons, List.length_nil, List.replicate, List.cons_append, List.nil_append, List.getElem?_cons_zero, List.getElem?_cons_succ, List.set_cons_zero, List.set_cons_succ, Nat.reduceSub, Nat.reduceAdd, decide_true, decide_false, Int.reduceAdd, Int.reduceSub, beq_self_eq_true, Bool.false_eq_true, if_false, if_true, hc, rd, s2_0, s2_1, s3_0, s3_1, s3_2, s4_0, s4_1, s4_2, s4_3, s5_0, s5_1, s5_2, s5_3, s5_4, w_case_num, w_case_truth, w_case_name, w_case_add, w_case_take, w_case_part, w_case_less, w_case_let, w_case_if, w_case_record, w_case_field, w_case_with, w_case_choice, w_case_case, q_retout2]
    exact fin_pass (by rw [main]; exact f2.nb)
  rw [st, main]
  exact f2
end
end Ev
set_option Elab.async false
set_option linter.all false
set_option maxRecDepth 100000
set_option maxHeartbeats 4000000
namespace K05
open PySem Ev
abbrev f_is_of : Fn := F_is_of 0
abbrev f_reckoned : Fn := F_reckoned 2 1 8 10 7 5 4 3 6
abbrev f_named : Fn := F_named
abbrev f_value_of_sum : Fn := F_value_of_sum 0 1
abbrev f_value_of_if : Fn := F_value_of_if 1
abbrev f_value_of_field : Fn := F_value_of_field 1
abbrev f_value_of_with : Fn := F_value_of_with 2 1
abbrev f_value_of_case : Fn := F_value_of_case 2 1
abbrev f_value_of_again : Fn := F_value_of_again 2 1
abbrev f_place_of : Fn := F_place_of
abbrev f_value_of_call : Fn := F_value_of_call 9 1
abbrev f_law_cell_at : Fn := F_law_cell_at
def b_law_name_by_0 : Ss :=
    (.cons (.app 2 (.sub (.var 1) (.bin .mod (.bin .add (.bin .fdiv (.var 0) (.cint 3)) (.bin .mul (.var 3) (.bin .add (.cint 1) (.bin .mod (.bin .fdiv (.var 0) (.cint 78)) (.cint 25))))) (.cint 26))))
    .nil)
def r_law_name_by_0 : Ss :=
    (.cons (.ret (.mth .join (.cstr ("" : Str)) (.cons (.var 2) .nil)))
    .nil)
def f_law_name_by : Fn where
  name := ("_law_name_by" : Str)
  ps := [("_law_cell" : Str)]
  N := [("_law_cell" : Str), ("_law_some" : Str), ("_law_signs" : Str), ("_law_k" : Str), ("_law_at" : Str)]
  body :=
    (.cons (.asg 1 (.cstr ("abcdefghijklmnopqrstuvwxyz" : Str)))
    (.cons (.ifs (.cmp .eq (.bin .mod (.bin .fdiv (.var 0) (.cint 5)) (.cint 4)) (.cint 0)) (.cons (.asg 4 (.bin .mod (.bin .fdiv (.var 0) (.cint 20)) (.cint 8)))
    (.cons (.ret (.bin .add (.bin .add (.slc (.cstr ("overmany" : Str)) .cnon (.var 4)) (.sub (.var 1) (.bin .mod (.bin .fdiv (.var 0) (.cint 160)) (.cint 26)))) (.slc (.cstr ("overmany" : Str)) (.bin .add (.var 4) (.cint 1)) .cnon)))
    .nil)) .nil)
    (.cons (.asg 2 (.lst .nil))
    (.cons (.forr [3] (.range (.bin .add (.cint 1) (.bin .mod (.var 0) (.cint 3)))) b_law_name_by_0) r_law_name_by_0))))
def f_law_size : Fn where
  name := ("_law_size" : Str)
  ps := [("_law_value" : Str)]
  N := [("_law_value" : Str), ("_law_name" : Str)]
  body :=
    (.cons (.ifs (.isi (.var 0) [.tuple]) (.cons (.ret (.bin .add (.cint 1) (.call 13 (.cons (.sub (.var 0) (.cint 1)) .nil))))
    .nil) .nil)
    (.cons (.ifs (.isi (.var 0) [.dict]) (.cons (.ret (.bin .add (.cint 1) (.bfn .sum (.cons (.comp (.call 13 (.cons (.sub (.var 0) (.var 1)) .nil)) [1] (.ex (.var 0)) (.cbl true)) .nil))))
    .nil) .nil)
    (.cons (.ret (.cint 1))
    .nil)))
def f_law_of : Fn where
  name := ("_law_of" : Str)
  ps := [("_law_known" : Str), ("_law_small" : Str), ("_law_want" : Str)]
  N := [("_law_known" : Str), ("_law_small" : Str), ("_law_want" : Str), ("_law_one" : Str)]
  body :=
    (.cons (.ifs (.cmp .eq (.var 2) (.cstr ("record" : Str))) (.cons (.ret (.comp (.var 3) [3] (.ex (.var 1)) (.isi (.sub (.var 0) (.var 3)) [.dict])))
    .nil) .nil)
    (.cons (.ret (.comp (.var 3) [3] (.ex (.var 1)) (.isi (.sub (.var 0) (.var 3)) [.tuple])))
    .nil))
def b_law_record_0 : Ss :=
    (.cons (.asg 7 (.call 12 (.cons (.bin .add (.bin .fdiv (.var 2) (.cint 45)) (.bin .mul (.cint 3) (.var 6))) .nil)))
    (.cons (.asg 8 (.sub (.var 1) (.bin .mod (.bin .add (.bin .fdiv (.var 2) (.cint 7)) (.bin .mul (.cint 5) (.var 6))) (.bfn .len (.cons (.var 1) .nil)))))
    (.cons (.ifs (.cmp .notin (.var 7) (.var 5)) (.frz 8 (.frz 7 (.cons (.app 4 (.tup (.cons (.var 7) (.cons (.tup (.cons (.cstr ("name" : Str)) (.cons (.var 8) .nil))) .nil))))
    (.cons (.setI 5 (.var 7) (.sub (.var 0) (.var 8)))
    .nil)))) .nil)
    .nil)))
def r_law_record_0 : Ss :=
    (.frz 5 (.frz 4 (.cons (.ret (.lst (.cons (.tup (.cons (.cstr ("record" : Str)) (.cons (.var 4) .nil))) (.cons (.var 5) .nil))))
    .nil)))
def f_law_record : Fn where
  name := ("_law_record" : Str)
  ps := [("_law_known" : Str), ("_law_small" : Str), ("_law_cell" : Str)]
  N := [("_law_known" : Str), ("_law_small" : Str), ("_law_cell" : Str), ("_law_many" : Str), ("_law_rows" : Str), ("_law_value" : Str), ("_law_k" : Str), ("_law_field_here" : Str), ("_law_name" : Str)]
  body :=
    (.cons (.asg 3 (.bin .mod (.var 2) (.cint 5)))
    (.cons (.ifs (.cmp .eq (.bin .mod (.bin .fdiv (.var 2) (.cint 5)) (.cint 9)) (.cint 4)) (.cons (.asg 3 (.cint 60))
    .nil) .nil)
    (.cons (.asg 4 (.lst .nil))
    (.cons (.asg 5 (.dct .nil))
    (.cons (.forr [6] (.range (.var 3)) b_law_record_0) r_law_record_0)))))
def f_law_field : Fn where
  name := ("_law_field" : Str)
  ps := [("_law_known" : Str), ("_law_small" : Str), ("_law_cell" : Str)]
  N := [("_law_known" : Str), ("_law_small" : Str), ("_law_cell" : Str), ("_law_some" : Str), ("_law_name" : Str), ("_law_field_here" : Str), ("_law_one" : Str)]
  body :=
    (.cons (.asg 3 (.comp (.var 6) [6] (.ex (.var 0)) (.and (.cons (.isi (.sub (.var 0) (.var 6)) [.dict]) (.cons (.cmp .ne (.sub (.var 0) (.var 6)) (.dct .nil)) .nil)))))
    (.cons (.ifs (.cmp .eq (.var 3) (.lst .nil)) (.cons (.ret (.call 15 (.cons (.var 0) (.cons (.var 1) (.cons (.var 2) .nil)))))
    .nil) .nil)
    (.cons (.asg 4 (.sub (.var 3) (.bin .mod (.var 2) (.bfn .len (.cons (.var 3) .nil)))))
    (.cons (.asg 5 (.sub (.bfn .list1 (.cons (.sub (.var 0) (.var 4)) .nil)) (.bin .mod (.bin .fdiv (.var 2) (.cint 60)) (.bfn .len (.cons (.sub (.var 0) (.var 4)) .nil)))))
    (.frz 4 (.frz 5 (.cons (.ret (.lst (.cons (.tup (.cons (.cstr ("field" : Str)) (.cons (.tup (.cons (.cstr ("name" : Str)) (.cons (.var 4) .nil))) (.cons (.var 5) .nil)))) (.cons (.sub (.sub (.var 0) (.var 4)) (.var 5)) .nil))))
    .nil)))))))
def f_law_with : Fn where
  name := ("_law_with" : Str)
  ps := [("_law_known" : Str), ("_law_small" : Str), ("_law_cell" : Str)]
  N := [("_law_known" : Str), ("_law_small" : Str), ("_law_cell" : Str), ("_law_some" : Str), ("_law_name" : Str), ("_law_field_here" : Str), ("_law_other" : Str), ("_law_value" : Str)]
  body :=
    (.cons (.asg 3 (.call 14 (.cons (.var 0) (.cons (.var 1) (.cons (.cstr ("record" : Str)) .nil)))))
    (.cons (.ifs (.cmp .eq (.var 3) (.lst .nil)) (.cons (.ret (.call 15 (.cons (.var 0) (.cons (.var 1) (.cons (.var 2) .nil)))))
    .nil) .nil)
    (.cons (.asg 4 (.sub (.var 3) (.bin .mod (.var 2) (.bfn .len (.cons (.var 3) .nil)))))
    (.cons (.asg 5 (.call 12 (.cons (.bin .fdiv (.var 2) (.cint 60)) .nil)))
    (.cons (.ifs (.and (.cons (.cmp .eq (.bin .mod (.bin .fdiv (.var 2) (.cint 30)) (.cint 2)) (.cint 0)) (.cons (.cmp .ne (.sub (.var 0) (.var 4)) (.dct .nil)) .nil))) (.cons (.asg 5 (.sub (.bfn .list1 (.cons (.sub (.var 0) (.var 4)) .nil)) (.bin .mod (.bin .fdiv (.var 2) (.cint 60)) (.bfn .len (.cons (.sub (.var 0) (.var 4)) .nil)))))
    .nil) .nil)
    (.cons (.asg 6 (.sub (.var 1) (.bin .mod (.bin .fdiv (.var 2) (.cint 61)) (.bfn .len (.cons (.var 1) .nil)))))
    (.cons (.asg 7 (.bfn .dict1 (.cons (.sub (.var 0) (.var 4)) .nil)))
    (.cons (.setI 7 (.var 5) (.sub (.var 0) (.var 6)))
    (.frz 7 (.frz 6 (.frz 4 (.frz 5 (.cons (.ret (.lst (.cons (.tup (.cons (.cstr ("with" : Str)) (.cons (.tup (.cons (.cstr ("name" : Str)) (.cons (.var 4) .nil))) (.cons (.var 5) (.cons (.tup (.cons (.cstr ("name" : Str)) (.cons (.var 6) .nil))) .nil))))) (.cons (.var 7) .nil))))
    .nil)))))))))))))
def f_law_choice : Fn where
  name := ("_law_choice" : Str)
  ps := [("_law_known" : Str), ("_law_small" : Str), ("_law_cell" : Str)]
  N := [("_law_known" : Str), ("_law_small" : Str), ("_law_cell" : Str), ("_law_other" : Str), ("_law_shape" : Str)]
  body :=
    (.cons (.asg 3 (.sub (.var 1) (.bin .mod (.var 2) (.bfn .len (.cons (.var 1) .nil)))))
    (.cons (.asg 4 (.call 12 (.cons (.bin .fdiv (.var 2) (.cint 60)) .nil)))
    (.frz 4 (.frz 3 (.cons (.ret (.lst (.cons (.tup (.cons (.cstr ("choice" : Str)) (.cons (.var 4) (.cons (.tup (.cons (.cstr ("name" : Str)) (.cons (.var 3) .nil))) .nil)))) (.cons (.tup (.cons (.var 4) (.cons (.sub (.var 0) (.var 3)) .nil))) .nil))))
    .nil)))))
def b_law_case_0 : Ss :=
    (.cons (.app 8 (.tup (.cons (.call 12 (.cons (.bin .add (.bin .fdiv (.var 2) (.cint 62)) (.bin .mul (.cint 7) (.var 9))) .nil)) (.cons (.cstr ("z" : Str)) (.cons (.tup (.cons (.cstr ("num" : Str)) (.cons (.var 9) .nil))) .nil)))))
    .nil)
def r_law_case_0 : Ss :=
    (.cons (.asg 10 (.comp (.var 12) [12] (.ex (.var 8)) (.cmp .ne (.sub (.var 12) (.cint 0)) (.sub (.sub (.var 0) (.var 4)) (.cint 0)))))
    (.cons (.asg 11 (.tup (.cons (.sub (.sub (.var 0) (.var 4)) (.cint 0)) (.cons (.cstr ("y" : Str)) (.cons (.tup (.cons (.cstr ("num" : Str)) (.cons (.cint 99) .nil))) .nil)))))
    (.cons (.ifs (.cmp .eq (.bin .mod (.bin .fdiv (.var 2) (.cint 17)) (.cint 2)) (.cint 0)) (.frz 7 (.frz 4 (.frz 6 (.cons (.ret (.lst (.cons (.tup (.cons (.cstr ("case" : Str)) (.cons (.tup (.cons (.cstr ("name" : Str)) (.cons (.var 4) .nil))) (.cons (.bin .add (.var 10) (.lst (.cons (.var 6) .nil))) .nil)))) (.cons (.var 7) .nil))))
    .nil)))) .nil)
    (.frz 7 (.frz 4 (.frz 6 (.frz 11 (.cons (.ret (.lst (.cons (.tup (.cons (.cstr ("case" : Str)) (.cons (.tup (.cons (.cstr ("name" : Str)) (.cons (.var 4) .nil))) (.cons (.bin .add (.lst (.cons (.var 6) (.cons (.var 11) .nil))) (.var 8)) .nil)))) (.cons (.var 7) .nil))))
    .nil))))))))
def f_law_case : Fn where
  name := ("_law_case" : Str)
  ps := [("_law_known" : Str), ("_law_small" : Str), ("_law_cell" : Str)]
  N := [("_law_known" : Str), ("_law_small" : Str), ("_law_cell" : Str), ("_law_some" : Str), ("_law_name" : Str), ("_law_x" : Str), ("_law_good" : Str), ("_law_value" : Str), ("_law_rows" : Str), ("_law_k" : Str), ("_law_ahead" : Str), ("_law_behind" : Str), ("_law_row" : Str)]
  body :=
    (.cons (.asg 3 (.call 14 (.cons (.var 0) (.cons (.var 1) (.cons (.cstr ("choice" : Str)) .nil)))))
    (.cons (.ifs (.cmp .eq (.var 3) (.lst .nil)) (.cons (.ret (.call 18 (.cons (.var 0) (.cons (.var 1) (.cons (.var 2) .nil)))))
    .nil) .nil)
    (.cons (.asg 4 (.sub (.var 3) (.bin .mod (.var 2) (.bfn .len (.cons (.var 3) .nil)))))
    (.cons (.asg 5 (.call 12 (.cons (.bin .fdiv (.var 2) (.cint 60)) .nil)))
    (.frz 5 (.frz 4 (.cons (.asg 6 (.tup (.cons (.sub (.sub (.var 0) (.var 4)) (.cint 0)) (.cons (.var 5) (.cons (.tup (.cons (.cstr ("record" : Str)) (.cons (.lst (.cons (.tup (.cons (.cstr ("got" : Str)) (.cons (.tup (.cons (.cstr ("name" : Str)) (.cons (.var 5) .nil))) .nil))) (.cons (.tup (.cons (.cstr ("by" : Str)) (.cons (.tup (.cons (.cstr ("name" : Str)) (.cons (.var 4) .nil))) .nil))) .nil))) .nil))) .nil)))))
    (.cons (.asg 7 (.dct (.cons (.cstr ("got" : Str)) (.cons (.sub (.sub (.var 0) (.var 4)) (.cint 1)) (.cons (.cstr ("by" : Str)) (.cons (.sub (.var 0) (.var 4)) .nil))))))
    (.cons (.ifs (.cmp .eq (.var 5) (.var 4)) (.cons (.setI 7 (.cstr ("by" : Str)) (.sub (.sub (.var 0) (.var 4)) (.cint 1)))
    .nil) .nil)
    (.cons (.asg 8 (.lst .nil))
    (.cons (.forr [9] (.range (.bin .mod (.bin .fdiv (.var 2) (.cint 31)) (.cint 4))) b_law_case_0) r_law_case_0)))))))))))
def f_law_if : Fn where
  name := ("_law_if" : Str)
  ps := [("_law_known" : Str), ("_law_cell" : Str)]
  N := [("_law_known" : Str), ("_law_cell" : Str), ("_law_every" : Str), ("_law_one" : Str), ("_law_other" : Str), ("_law_left" : Str), ("_law_test" : Str)]
  body :=
    (.cons (.asg 2 (.bfn .list1 (.cons (.var 0) .nil)))
    (.cons (.asg 3 (.sub (.var 2) (.bin .mod (.var 1) (.bfn .len (.cons (.var 2) .nil)))))
    (.cons (.asg 4 (.sub (.var 2) (.bin .mod (.bin .fdiv (.var 1) (.cint 60)) (.bfn .len (.cons (.var 2) .nil)))))
    (.cons (.asg 5 (.cmp .eq (.bin .mod (.bin .fdiv (.var 1) (.cint 59)) (.cint 2)) (.cint 1)))
    (.cons (.asg 6 (.tup (.cons (.cstr ("less" : Str)) (.cons (.tup (.cons (.cstr ("num" : Str)) (.cons (.cint 3) .nil))) (.cons (.tup (.cons (.cstr ("num" : Str)) (.cons (.bin .add (.cint 2) (.bin .mul (.cint 2) (.bfn .int1 (.cons (.var 5) .nil)))) .nil))) .nil)))))
    (.frz 6 (.frz 4 (.frz 3 (.cons (.ret (.lst (.cons (.tup (.cons (.cstr ("if" : Str)) (.cons (.var 6) (.cons (.tup (.cons (.cstr ("name" : Str)) (.cons (.var 3) .nil))) (.cons (.tup (.cons (.cstr ("name" : Str)) (.cons (.var 4) .nil))) .nil))))) (.cons (.sub (.lst (.cons (.sub (.var 0) (.var 4)) (.cons (.sub (.var 0) (.var 3)) .nil))) (.bfn .int1 (.cons (.var 5) .nil))) .nil))))
    .nil)))))))))
def f_law_step : Fn where
  name := ("_law_step" : Str)
  ps := [("_law_known" : Str), ("_law_small" : Str), ("_law_cell" : Str)]
  N := [("_law_known" : Str), ("_law_small" : Str), ("_law_cell" : Str), ("_law_pick" : Str), ("_law_more" : Str)]
  body :=
    (.cons (.asg 3 (.bin .mod (.var 2) (.cint 7)))
    (.cons (.asg 4 (.bin .fdiv (.var 2) (.cint 7)))
    (.cons (.ifs (.cmp .eq (.var 3) (.cint 0)) (.cons (.ret (.lst (.cons (.tup (.cons (.cstr ("num" : Str)) (.cons (.bin .sub (.bin .mod (.var 4) (.cint 2001)) (.cint 1000)) .nil))) (.cons (.bin .sub (.bin .mod (.var 4) (.cint 2001)) (.cint 1000)) .nil))))
    .nil) .nil)
    (.cons (.ifs (.cmp .eq (.var 3) (.cint 1)) (.cons (.ret (.call 15 (.cons (.var 0) (.cons (.var 1) (.cons (.var 4) .nil)))))
    .nil) .nil)
    (.cons (.ifs (.cmp .eq (.var 3) (.cint 2)) (.cons (.ret (.call 16 (.cons (.var 0) (.cons (.var 1) (.cons (.var 4) .nil)))))
    .nil) .nil)
    (.cons (.ifs (.cmp .eq (.var 3) (.cint 3)) (.cons (.ret (.call 17 (.cons (.var 0) (.cons (.var 1) (.cons (.var 4) .nil)))))
    .nil) .nil)
    (.cons (.ifs (.cmp .eq (.var 3) (.cint 4)) (.cons (.ret (.call 18 (.cons (.var 0) (.cons (.var 1) (.cons (.var 4) .nil)))))
    .nil) .nil)
    (.cons (.ifs (.cmp .eq (.var 3) (.cint 5)) (.cons (.ret (.call 19 (.cons (.var 0) (.cons (.var 1) (.cons (.var 4) .nil)))))
    .nil) .nil)
    (.cons (.ret (.call 20 (.cons (.var 0) (.cons (.var 4) .nil))))
    .nil)))))))))
def f_law_alike : Fn where
  name := ("_law_alike" : Str)
  ps := [("_law_found" : Str), ("_law_due" : Str)]
  N := [("_law_found" : Str), ("_law_due" : Str), ("_law_name" : Str)]
  body :=
    (.cons (.ifs (.or (.cons (.isi (.var 1) [.bool]) (.cons (.isi (.var 1) [.int]) .nil))) (.cons (.ret (.and (.cons (.cmp .eq (.isi (.var 0) [.bool]) (.isi (.var 1) [.bool])) (.cons (.isi (.var 0) [.int]) (.cons (.cmp .eq (.var 0) (.var 1)) .nil)))))
    .nil) .nil)
    (.cons (.ifs (.isi (.var 1) [.tuple]) (.cons (.ret (.and (.cons (.isi (.var 0) [.tuple]) (.cons (.cmp .eq (.bfn .len (.cons (.var 0) .nil)) (.cint 2)) (.cons (.cmp .eq (.sub (.var 0) (.cint 0)) (.sub (.var 1) (.cint 0))) (.cons (.call 22 (.cons (.sub (.var 0) (.cint 1)) (.cons (.sub (.var 1) (.cint 1)) .nil))) .nil))))))
    .nil) .nil)
    (.cons (.ifs (.or (.cons (.not (.isi (.var 0) [.dict])) (.cons (.cmp .ne (.bfn .len (.cons (.var 0) .nil)) (.bfn .len (.cons (.var 1) .nil))) .nil))) (.cons (.ret (.cbl false))
    .nil) .nil)
    (.cons (.ret (.bfn .all (.cons (.comp (.and (.cons (.cmp .inn (.var 2) (.var 0)) (.cons (.call 22 (.cons (.sub (.var 0) (.var 2)) (.cons (.sub (.var 1) (.var 2)) .nil))) .nil))) [2] (.ex (.var 1)) (.cbl true)) .nil)))
    .nil))))
def b_law_1 : Ss :=
    (.frz 6 (.cons (.asg 6 (.tup (.cons (.cstr ("let" : Str)) (.cons (.sub (.var 7) (.cint 0)) (.cons (.sub (.var 7) (.cint 1)) (.cons (.var 6) .nil))))))
    .nil))
def r_law_1 : Ss :=
    (.cons (.asg 8 (.lst (.cons (.bfn .repr (.cons (.var 1) .nil)) (.cons (.bfn .repr (.cons (.var 6) .nil)) .nil))))
    (.cons (.asg 9 (.call 1 (.cons (.lst .nil) (.cons (.var 1) (.cons (.var 6) .nil)))))
    (.cons (.ret (.and (.cons (.call 22 (.cons (.var 9) (.cons (.sub (.var 2) (.var 5)) .nil))) (.cons (.cmp .eq (.lst (.cons (.bfn .repr (.cons (.var 1) .nil)) (.cons (.bfn .repr (.cons (.var 6) .nil)) .nil))) (.var 8)) .nil))))
    .nil)))
def j_law_0 : Ss :=
    (.frz 5 (.cons (.asg 6 (.tup (.cons (.cstr ("name" : Str)) (.cons (.var 5) .nil))))
    (.frz 4 (.cons (.forr [7] (.rev (.var 4)) b_law_1) r_law_1))))
def b_law_0 : Ss :=
    (.cons (.asg 12 (.call 12 (.cons (.bin .add (.bin .mod (.bin .fdiv (.var 11) (.cint 97)) (.cint 80)) (.bin .mul (.cint 80) (.bin .mod (.var 10) (.cint 5)))) .nil)))
    (.cons (.asg 13 (.comp (.var 7) [7] (.ex (.var 2)) (.cmp .lt (.sub (.var 3) (.var 7)) (.cint 40))))
    (.cons (.asg 14 (.call 21 (.cons (.var 2) (.cons (.var 13) (.cons (.bin .add (.bin .mod (.bin .mul (.var 11) (.cint 48271)) (.cint 2147483647)) (.var 10)) .nil)))))
    (.frz 12 (.cons (.app 4 (.tup (.cons (.var 12) (.cons (.sub (.var 14) (.cint 0)) .nil))))
    (.cons (.setI 2 (.var 12) (.sub (.var 14) (.cint 1)))
    (.cons (.setI 3 (.var 12) (.call 13 (.cons (.sub (.var 14) (.cint 1)) .nil)))
    .nil)))))))
def r_law_0 : Ss :=
    (.cons (.asg 5 (.cstr ("a" : Str)))
    (.cons (.ifs (.cmp .ne (.var 4) (.lst .nil)) (.cons (.asg 5 (.sub (.sub (.var 4) (.neg (.cint 1))) (.cint 0)))
    .nil) .nil) j_law_0))
def f_law : Fn where
  name := ("law" : Str)
  ps := [("_law_script" : Str)]
  N := [("_law_script" : Str), ("_law_names" : Str), ("_law_known" : Str), ("_law_sizes" : Str), ("_law_lets" : Str), ("_law_last" : Str), ("_law_tree" : Str), ("_law_one" : Str), ("_law_ahead" : Str), ("_law_found" : Str), ("_law_k" : Str), ("_law_cell" : Str), ("_law_name" : Str), ("_law_small" : Str), ("_law_step_here" : Str)]
  body :=
    (.cons (.asg 1 (.dct (.cons (.cstr ("a" : Str)) (.cons (.bin .sub (.bin .mod (.call 11 (.cons (.var 0) (.cons (.cint 0) .nil))) (.cint 2001)) (.cint 1000)) (.cons (.cstr ("t" : Str)) (.cons (.cmp .eq (.bin .mod (.call 11 (.cons (.var 0) (.cons (.cint 0) .nil))) (.cint 2)) (.cint 0)) (.cons (.cstr ("r" : Str)) (.cons (.dct .nil) (.cons (.cstr ("zzzz" : Str)) (.cons (.cint 5) .nil))))))))))
    (.cons (.setI 1 (.cstr ("c" : Str)) (.tup (.cons (.call 12 (.cons (.call 11 (.cons (.var 0) (.cons (.cint 1) .nil))) .nil)) (.cons (.bin .mod (.call 11 (.cons (.var 0) (.cons (.cint 1) .nil))) (.cint 9)) .nil))))
    (.cons (.asg 2 (.bfn .dict1 (.cons (.var 1) .nil)))
    (.cons (.asg 3 (.dct (.cons (.cstr ("a" : Str)) (.cons (.cint 1) (.cons (.cstr ("t" : Str)) (.cons (.cint 1) (.cons (.cstr ("r" : Str)) (.cons (.cint 1) (.cons (.cstr ("c" : Str)) (.cons (.cint 2) (.cons (.cstr ("zzzz" : Str)) (.cons (.cint 1) .nil))))))))))))
    (.cons (.asg 4 (.lst .nil))
    (.cons (.forr [10, 11] (.enum (.slc (.var 0) (.cint 2) (.cint 32))) b_law_0) r_law_0))))))
def cls : List Str := [("LostName" : Str), ("LostField" : Str), ("LostShape" : Str), ("Misfit" : Str), ("ByNought" : Str), ("TooGreat" : Str)]
def hcl : List Str := []
def icl : List Str := []
def subs : List (Str × Str) := [(("LostName" : Str), ("LostName" : Str)), (("LostName" : Str), ("Stuck" : Str)), (("LostName" : Str), ("KindError" : Str)), (("LostName" : Str), ("ValueError" : Str)), (("LostField" : Str), ("LostField" : Str)), (("LostField" : Str), ("Stuck" : Str)), (("LostField" : Str), ("KindError" : Str)), (("LostField" : Str), ("ValueError" : Str)), (("LostShape" : Str), ("LostShape" : Str)), (("LostShape" : Str), ("Stuck" : Str)), (("LostShape" : Str), ("KindError" : Str)), (("LostShape" : Str), ("ValueError" : Str)), (("Misfit" : Str), ("Misfit" : Str)), (("Misfit" : Str), ("Stuck" : Str)), (("Misfit" : Str), ("KindError" : Str)), (("Misfit" : Str), ("ValueError" : Str)), (("ByNought" : Str), ("ByNought" : Str)), (("ByNought" : Str), ("Stopped" : Str)), (("ByNought" : Str), ("KindError" : Str)), (("ByNought" : Str), ("ValueError" : Str)), (("TooGreat" : Str), ("TooGreat" : Str)), (("TooGreat" : Str), ("Stopped" : Str)), (("TooGreat" : Str), ("KindError" : Str)), (("TooGreat" : Str), ("ValueError" : Str))]
def cons : List (Str × Int) := [(("MOST" : Str), 1000000000000)]
def tab : Tab where
  fns := [f_is_of, f_reckoned, f_named, f_value_of_sum, f_value_of_if, f_value_of_field, f_value_of_with, f_value_of_case, f_value_of_again, f_place_of, f_value_of_call, f_law_cell_at, f_law_name_by, f_law_size, f_law_of, f_law_record, f_law_field, f_law_with, f_law_choice, f_law_case, f_law_if, f_law_step, f_law_alike, f_law]
  cls := cls
  hcl := hcl
  icl := icl
  sub := fun a b => subs.contains (a, b)
end K05
set_option Elab.async false
set_option linter.all false
set_option maxRecDepth 100000
set_option maxHeartbeats 4000000
namespace K05
open PySem Ev L2
def top (i : Nat) : Stmt := PySem.Challenge.pw_kindsure_k05_records_and_choices_reckone.main.body.getD i (.Pass ⟨0, 0, 0, 0⟩)
theorem chk0 : chkFn (nmsT tab) cons icl cls hcl f_is_of (top 11) = true := by decide +kernel
theorem chk1 : chkFn (nmsT tab) cons icl cls hcl f_reckoned (top 14) = true := by decide +kernel
theorem chk2 : chkFn (nmsT tab) cons icl cls hcl f_named (top 15) = true := by decide +kernel
theorem chk3 : chkFn (nmsT tab) cons icl cls hcl f_value_of_sum (top 16) = true := by decide +kernel
theorem chk4 : chkFn (nmsT tab) cons icl cls hcl f_value_of_if (top 17) = true := by decide +kernel
theorem chk5 : chkFn (nmsT tab) cons icl cls hcl f_value_of_field (top 18) = true := by decide +kernel
theorem chk6 : chkFn (nmsT tab) cons icl cls hcl f_value_of_with (top 19) = true := by decide +kernel
theorem chk7 : chkFn (nmsT tab) cons icl cls hcl f_value_of_case (top 20) = true := by decide +kernel
theorem chk8 : chkFn (nmsT tab) cons icl cls hcl f_value_of_again (top 21) = true := by decide +kernel
theorem chk9 : chkFn (nmsT tab) cons icl cls hcl f_place_of (top 22) = true := by decide +kernel
theorem chk10 : chkFn (nmsT tab) cons icl cls hcl f_value_of_call (top 23) = true := by decide +kernel
theorem chk11 : chkFn (nmsT tab) cons icl cls hcl f_law_cell_at (top 25) = true := by decide +kernel
theorem chk12 : chkFn (nmsT tab) cons icl cls hcl f_law_name_by (top 26) = true := by decide +kernel
theorem chk13 : chkFn (nmsT tab) cons icl cls hcl f_law_size (top 27) = true := by decide +kernel
theorem chk14 : chkFn (nmsT tab) cons icl cls hcl f_law_of (top 28) = true := by decide +kernel
theorem chk15 : chkFn (nmsT tab) cons icl cls hcl f_law_record (top 29) = true := by decide +kernel
theorem chk16 : chkFn (nmsT tab) cons icl cls hcl f_law_field (top 30) = true := by decide +kernel
theorem chk17 : chkFn (nmsT tab) cons icl cls hcl f_law_with (top 31) = true := by decide +kernel
theorem chk18 : chkFn (nmsT tab) cons icl cls hcl f_law_choice (top 32) = true := by decide +kernel
theorem chk19 : chkFn (nmsT tab) cons icl cls hcl f_law_case (top 33) = true := by decide +kernel
theorem chk20 : chkFn (nmsT tab) cons icl cls hcl f_law_if (top 34) = true := by decide +kernel
theorem chk21 : chkFn (nmsT tab) cons icl cls hcl f_law_step (top 35) = true := by decide +kernel
theorem chk22 : chkFn (nmsT tab) cons icl cls hcl f_law_alike (top 36) = true := by decide +kernel
theorem chk23 : chkFn (nmsT tab) cons icl cls hcl f_law (top 37) = true := by decide +kernel
theorem all_mk {l : PySem.W.OpenLaw} {w : World} {K : PySem.W.Frag} {h : Heap} {mg : Str → Option Value} {fa : Addr} (X : K.In h) (G : h.Ns mainGlobals mg) (hfa : mg "law" = some (.ref fa))
    {f0 : Addr} {od0 an0 : Option Addr} {sl0 : Array (Option Value)} {oc0 kV0 dc0 pm0 cd0 ct0 : Value}
    {f1 : Addr} {od1 an1 : Option Addr} {sl1 : Array (Option Value)} {oc1 kV1 dc1 pm1 cd1 ct1 : Value}
    {f2 : Addr} {od2 an2 : Option Addr} {sl2 : Array (Option Value)} {oc2 kV2 dc2 pm2 cd2 ct2 : Value}
    {f3 : Addr} {od3 an3 : Option Addr} {sl3 : Array (Option Value)} {oc3 kV3 dc3 pm3 cd3 ct3 : Value}
    {f4 : Addr} {od4 an4 : Option Addr} {sl4 : Array (Option Value)} {oc4 kV4 dc4 pm4 cd4 ct4 : Value}
    {f5 : Addr} {od5 an5 : Option Addr} {sl5 : Array (Option Value)} {oc5 kV5 dc5 pm5 cd5 ct5 : Value}
    {f6 : Addr} {od6 an6 : Option Addr} {sl6 : Array (Option Value)} {oc6 kV6 dc6 pm6 cd6 ct6 : Value}
    {f7 : Addr} {od7 an7 : Option Addr} {sl7 : Array (Option Value)} {oc7 kV7 dc7 pm7 cd7 ct7 : Value}
    {f8 : Addr} {od8 an8 : Option Addr} {sl8 : Array (Option Value)} {oc8 kV8 dc8 pm8 cd8 ct8 : Value}
    {f9 : Addr} {od9 an9 : Option Addr} {sl9 : Array (Option Value)} {oc9 kV9 dc9 pm9 cd9 ct9 : Value}
    {f10 : Addr} {od10 an10 : Option Addr} {sl10 : Array (Option Value)} {oc10 kV10 dc10 pm10 cd10 ct10 : Value}
    {f11 : Addr} {od11 an11 : Option Addr} {sl11 : Array (Option Value)} {oc11 kV11 dc11 pm11 cd11 ct11 : Value}
    {f12 : Addr} {od12 an12 : Option Addr} {sl12 : Array (Option Value)} {oc12 kV12 dc12 pm12 cd12 ct12 : Value}
    {f13 : Addr} {od13 an13 : Option Addr} {sl13 : Array (Option Value)} {oc13 kV13 dc13 pm13 cd13 ct13 : Value}
    {f14 : Addr} {od14 an14 : Option Addr} {sl14 : Array (Option Value)} {oc14 kV14 dc14 pm14 cd14 ct14 : Value}
    {f15 : Addr} {od15 an15 : Option Addr} {sl15 : Array (Option Value)} {oc15 kV15 dc15 pm15 cd15 ct15 : Value}
    {f16 : Addr} {od16 an16 : Option Addr} {sl16 : Array (Option Value)} {oc16 kV16 dc16 pm16 cd16 ct16 : Value}
    {f17 : Addr} {od17 an17 : Option Addr} {sl17 : Array (Option Value)} {oc17 kV17 dc17 pm17 cd17 ct17 : Value}
    {f18 : Addr} {od18 an18 : Option Addr} {sl18 : Array (Option Value)} {oc18 kV18 dc18 pm18 cd18 ct18 : Value}
    {f19 : Addr} {od19 an19 : Option Addr} {sl19 : Array (Option Value)} {oc19 kV19 dc19 pm19 cd19 ct19 : Value}
    {f20 : Addr} {od20 an20 : Option Addr} {sl20 : Array (Option Value)} {oc20 kV20 dc20 pm20 cd20 ct20 : Value}
    {f21 : Addr} {od21 an21 : Option Addr} {sl21 : Array (Option Value)} {oc21 kV21 dc21 pm21 cd21 ct21 : Value}
    {f22 : Addr} {od22 an22 : Option Addr} {sl22 : Array (Option Value)} {oc22 kV22 dc22 pm22 cd22 ct22 : Value}
    {f23 : Addr} {od23 an23 : Option Addr} {sl23 : Array (Option Value)} {oc23 kV23 dc23 pm23 cd23 ct23 : Value}
    (a0 : PySem.W.nsIn K mainGlobals "is_of" = some (some (.ref f0))) (l0 : K.lookup f0 = some ⟨oc0, od0, .func (PySem.W.fnOf "is_of" "is_of" (defArgs (top 11)) (defBody (top 11)) (defScope (top 11)) .none kV0 dc0 pm0 an0 cd0 ct0), sl0⟩) (c0 : PySem.W.codeIn K cd0 "is_of" = true) (k0 : PySem.W.keepIn K (.ref f0) = true)
    (a1 : PySem.W.nsIn K mainGlobals "reckoned" = some (some (.ref f1))) (l1 : K.lookup f1 = some ⟨oc1, od1, .func (PySem.W.fnOf "reckoned" "reckoned" (defArgs (top 14)) (defBody (top 14)) (defScope (top 14)) .none kV1 dc1 pm1 an1 cd1 ct1), sl1⟩) (c1 : PySem.W.codeIn K cd1 "reckoned" = true) (k1 : PySem.W.keepIn K (.ref f1) = true)
    (a2 : PySem.W.nsIn K mainGlobals "named" = some (some (.ref f2))) (l2 : K.lookup f2 = some ⟨oc2, od2, .func (PySem.W.fnOf "named" "named" (defArgs (top 15)) (defBody (top 15)) (defScope (top 15)) .none kV2 dc2 pm2 an2 cd2 ct2), sl2⟩) (c2 : PySem.W.codeIn K cd2 "named" = true) (k2 : PySem.W.keepIn K (.ref f2) = true)
    (a3 : PySem.W.nsIn K mainGlobals "value_of_sum" = some (some (.ref f3))) (l3 : K.lookup f3 = some ⟨oc3, od3, .func (PySem.W.fnOf "value_of_sum" "value_of_sum" (defArgs (top 16)) (defBody (top 16)) (defScope (top 16)) .none kV3 dc3 pm3 an3 cd3 ct3), sl3⟩) (c3 : PySem.W.codeIn K cd3 "value_of_sum" = true) (k3 : PySem.W.keepIn K (.ref f3) = true)
    (a4 : PySem.W.nsIn K mainGlobals "value_of_if" = some (some (.ref f4))) (l4 : K.lookup f4 = some ⟨oc4, od4, .func (PySem.W.fnOf "value_of_if" "value_of_if" (defArgs (top 17)) (defBody (top 17)) (defScope (top 17)) .none kV4 dc4 pm4 an4 cd4 ct4), sl4⟩) (c4 : PySem.W.codeIn K cd4 "value_of_if" = true) (k4 : PySem.W.keepIn K (.ref f4) = true)
    (a5 : PySem.W.nsIn K mainGlobals "value_of_field" = some (some (.ref f5))) (l5 : K.lookup f5 = some ⟨oc5, od5, .func (PySem.W.fnOf "value_of_field" "value_of_field" (defArgs (top 18)) (defBody (top 18)) (defScope (top 18)) .none kV5 dc5 pm5 an5 cd5 ct5), sl5⟩) (c5 : PySem.W.codeIn K cd5 "value_of_field" = true) (k5 : PySem.W.keepIn K (.ref f5) = true)
    (a6 : PySem.W.nsIn K mainGlobals "value_of_with" = some (some (.ref f6))) (l6 : K.lookup f6 = some ⟨oc6, od6, .func (PySem.W.fnOf "value_of_with" "value_of_with" (defArgs (top 19)) (defBody (top 19)) (defScope (top 19)) .none kV6 dc6 pm6 an6 cd6 ct6), sl6⟩) (c6 : PySem.W.codeIn K cd6 "value_of_with" = true) (k6 : PySem.W.keepIn K (.ref f6) = true)
    (a7 : PySem.W.nsIn K mainGlobals "value_of_case" = some (some (.ref f7))) (l7 : K.lookup f7 = some ⟨oc7, od7, .func (PySem.W.fnOf "value_of_case" "value_of_case" (defArgs (top 20)) (defBody (top 20)) (defScope (top 20)) .none kV7 dc7 pm7 an7 cd7 ct7), sl7⟩) (c7 : PySem.W.codeIn K cd7 "value_of_case" = true) (k7 : PySem.W.keepIn K (.ref f7) = true)
    (a8 : PySem.W.nsIn K mainGlobals "value_of_again" = some (some (.ref f8))) (l8 : K.lookup f8 = some ⟨oc8, od8, .func (PySem.W.fnOf "value_of_again" "value_of_again" (defArgs (top 21)) (defBody (top 21)) (defScope (top 21)) .none kV8 dc8 pm8 an8 cd8 ct8), sl8⟩) (c8 : PySem.W.codeIn K cd8 "value_of_again" = true) (k8 : PySem.W.keepIn K (.ref f8) = true)
    (a9 : PySem.W.nsIn K mainGlobals "place_of" = some (some (.ref f9))) (l9 : K.lookup f9 = some ⟨oc9, od9, .func (PySem.W.fnOf "place_of" "place_of" (defArgs (top 22)) (defBody (top 22)) (defScope (top 22)) .none kV9 dc9 pm9 an9 cd9 ct9), sl9⟩) (c9 : PySem.W.codeIn K cd9 "place_of" = true) (k9 : PySem.W.keepIn K (.ref f9) = true)
    (a10 : PySem.W.nsIn K mainGlobals "value_of_call" = some (some (.ref f10))) (l10 : K.lookup f10 = some ⟨oc10, od10, .func (PySem.W.fnOf "value_of_call" "value_of_call" (defArgs (top 23)) (defBody (top 23)) (defScope (top 23)) .none kV10 dc10 pm10 an10 cd10 ct10), sl10⟩) (c10 : PySem.W.codeIn K cd10 "value_of_call" = true) (k10 : PySem.W.keepIn K (.ref f10) = true)
    (a11 : PySem.W.nsIn K mainGlobals "_law_cell_at" = some (some (.ref f11))) (l11 : K.lookup f11 = some ⟨oc11, od11, .func (PySem.W.fnOf "_law_cell_at" "_law_cell_at" (defArgs (top 25)) (defBody (top 25)) (defScope (top 25)) .none kV11 dc11 pm11 an11 cd11 ct11), sl11⟩) (c11 : PySem.W.codeIn K cd11 "_law_cell_at" = true) (k11 : PySem.W.keepIn K (.ref f11) = true)
    (a12 : PySem.W.nsIn K mainGlobals "_law_name_by" = some (some (.ref f12))) (l12 : K.lookup f12 = some ⟨oc12, od12, .func (PySem.W.fnOf "_law_name_by" "_law_name_by" (defArgs (top 26)) (defBody (top 26)) (defScope (top 26)) .none kV12 dc12 pm12 an12 cd12 ct12), sl12⟩) (c12 : PySem.W.codeIn K cd12 "_law_name_by" = true) (k12 : PySem.W.keepIn K (.ref f12) = true)
    (a13 : PySem.W.nsIn K mainGlobals "_law_size" = some (some (.ref f13))) (l13 : K.lookup f13 = some ⟨oc13, od13, .func (PySem.W.fnOf "_law_size" "_law_size" (defArgs (top 27)) (defBody (top 27)) (defScope (top 27)) .none kV13 dc13 pm13 an13 cd13 ct13), sl13⟩) (c13 : PySem.W.codeIn K cd13 "_law_size" = true) (k13 : PySem.W.keepIn K (.ref f13) = true)
    (a14 : PySem.W.nsIn K mainGlobals "_law_of" = some (some (.ref f14))) (l14 : K.lookup f14 = some ⟨oc14, od14, .func (PySem.W.fnOf "_law_of" "_law_of" (defArgs (top 28)) (defBody (top 28)) (defScope (top 28)) .none kV14 dc14 pm14 an14 cd14 ct14), sl14⟩) (c14 : PySem.W.codeIn K cd14 "_law_of" = true) (k14 : PySem.W.keepIn K (.ref f14) = true)
    (a15 : PySem.W.nsIn K mainGlobals "_law_record" = some (some (.ref f15))) (l15 : K.lookup f15 = some ⟨oc15, od15, .func (PySem.W.fnOf "_law_record" "_law_record" (defArgs (top 29)) (defBody (top 29)) (defScope (top 29)) .none kV15 dc15 pm15 an15 cd15 ct15), sl15⟩) (c15 : PySem.W.codeIn K cd15 "_law_record" = true) (k15 : PySem.W.keepIn K (.ref f15) = true)
    (a16 : PySem.W.nsIn K mainGlobals "_law_field" = some (some (.ref f16))) (l16 : K.lookup f16 = some ⟨oc16, od16, .func (PySem.W.fnOf "_law_field" "_law_field" (defArgs (top 30)) (defBody (top 30)) (defScope (top 30)) .none kV16 dc16 pm16 an16 cd16 ct16), sl16⟩) (c16 : PySem.W.codeIn K cd16 "_law_field" = true) (k16 : PySem.W.keepIn K (.ref f16) = true)
    (a17 : PySem.W.nsIn K mainGlobals "_law_with" = some (some (.ref f17))) (l17 : K.lookup f17 = some ⟨oc17, od17, .func (PySem.W.fnOf "_law_with" "_law_with" (defArgs (top 31)) (defBody (top 31)) (defScope (top 31)) .none kV17 dc17 pm17 an17 cd17 ct17), sl17⟩) (c17 : PySem.W.codeIn K cd17 "_law_with" = true) (k17 : PySem.W.keepIn K (.ref f17) = true)
    (a18 : PySem.W.nsIn K mainGlobals "_law_choice" = some (some (.ref f18))) (l18 : K.lookup f18 = some ⟨oc18, od18, .func (PySem.W.fnOf "_law_choice" "_law_choice" (defArgs (top 32)) (defBody (top 32)) (defScope (top 32)) .none kV18 dc18 pm18 an18 cd18 ct18), sl18⟩) (c18 : PySem.W.codeIn K cd18 "_law_choice" = true) (k18 : PySem.W.keepIn K (.ref f18) = true)
    (a19 : PySem.W.nsIn K mainGlobals "_law_case" = some (some (.ref f19))) (l19 : K.lookup f19 = some ⟨oc19, od19, .func (PySem.W.fnOf "_law_case" "_law_case" (defArgs (top 33)) (defBody (top 33)) (defScope (top 33)) .none kV19 dc19 pm19 an19 cd19 ct19), sl19⟩) (c19 : PySem.W.codeIn K cd19 "_law_case" = true) (k19 : PySem.W.keepIn K (.ref f19) = true)
    (a20 : PySem.W.nsIn K mainGlobals "_law_if" = some (some (.ref f20))) (l20 : K.lookup f20 = some ⟨oc20, od20, .func (PySem.W.fnOf "_law_if" "_law_if" (defArgs (top 34)) (defBody (top 34)) (defScope (top 34)) .none kV20 dc20 pm20 an20 cd20 ct20), sl20⟩) (c20 : PySem.W.codeIn K cd20 "_law_if" = true) (k20 : PySem.W.keepIn K (.ref f20) = true)
    (a21 : PySem.W.nsIn K mainGlobals "_law_step" = some (some (.ref f21))) (l21 : K.lookup f21 = some ⟨oc21, od21, .func (PySem.W.fnOf "_law_step" "_law_step" (defArgs (top 35)) (defBody (top 35)) (defScope (top 35)) .none kV21 dc21 pm21 an21 cd21 ct21), sl21⟩) (c21 : PySem.W.codeIn K cd21 "_law_step" = true) (k21 : PySem.W.keepIn K (.ref f21) = true)
    (a22 : PySem.W.nsIn K mainGlobals "_law_alike" = some (some (.ref f22))) (l22 : K.lookup f22 = some ⟨oc22, od22, .func (PySem.W.fnOf "_law_alike" "_law_alike" (defArgs (top 36)) (defBody (top 36)) (defScope (top 36)) .none kV22 dc22 pm22 an22 cd22 ct22), sl22⟩) (c22 : PySem.W.codeIn K cd22 "_law_alike" = true) (k22 : PySem.W.keepIn K (.ref f22) = true)
    (a23 : PySem.W.nsIn K mainGlobals "law" = some (some (.ref f23))) (l23 : K.lookup f23 = some ⟨oc23, od23, .func (PySem.W.fnOf "law" "law" (defArgs (top 37)) (defBody (top 37)) (defScope (top 37)) .none kV23 dc23 pm23 an23 cd23 ct23), sl23⟩) (c23 : PySem.W.codeIn K cd23 "law" = true) (k23 : PySem.W.keepIn K (.ref f23) = true)
    {C0 C1 C2 C3 C4 C5 : Addr}
    {tMOST : Tok}
    (cA0 : PySem.W.nsIn K mainGlobals "LostName" = some (some (.ref C0)))
    (cB0 : PySem.W.subIn K (.ref C0) (.type "BaseException") = some true)
    (cD0 : PySem.W.hasDictIn K C0 = true)
    (cT0 : PySem.W.typeIn K (.ref C0) = some (.type "type"))
    (cX0 : PySem.W.excIn K C0 [.type "ValueError", .type "Exception", .type "BaseException", .type "object"] "ValueError.__new__" = true)
    (cK0 : PySem.W.keepIn K (.ref C0) = true)
    (cP0 : PySem.W.subIn K (.ref C0) (.ref C0) = some true)
    (cV0 : PySem.W.subIn K (.ref C0) (.type "ValueError") = some true)
    (cG0 : PySem.W.findIn K (.ref C0) "__getattribute__" = some (some (.builtin "BaseException.__getattribute__")))
    (cH0 : PySem.W.findIn K (.ref C0) "__getattr__" = some none)
    (cE0 : PySem.W.findIn K (.ref C0) "__class__" = some (some (.builtin "object.__class__")))
    (cM0 : PySem.W.mroIn K C0 (.type "object") = some true)
    (cA1 : PySem.W.nsIn K mainGlobals "LostField" = some (some (.ref C1)))
    (cB1 : PySem.W.subIn K (.ref C1) (.type "BaseException") = some true)
    (cD1 : PySem.W.hasDictIn K C1 = true)
    (cT1 : PySem.W.typeIn K (.ref C1) = some (.type "type"))
    (cX1 : PySem.W.excIn K C1 [.type "ValueError", .type "Exception", .type "BaseException", .type "object"] "ValueError.__new__" = true)
    (cK1 : PySem.W.keepIn K (.ref C1) = true)
    (cP1 : PySem.W.subIn K (.ref C1) (.ref C1) = some true)
    (cV1 : PySem.W.subIn K (.ref C1) (.type "ValueError") = some true)
    (cG1 : PySem.W.findIn K (.ref C1) "__getattribute__" = some (some (.builtin "BaseException.__getattribute__")))
    (cH1 : PySem.W.findIn K (.ref C1) "__getattr__" = some none)
    (cE1 : PySem.W.findIn K (.ref C1) "__class__" = some (some (.builtin "object.__class__")))
    (cM1 : PySem.W.mroIn K C1 (.type "object") = some true)
    (cA2 : PySem.W.nsIn K mainGlobals "LostShape" = some (some (.ref C2)))
    (cB2 : PySem.W.subIn K (.ref C2) (.type "BaseException") = some true)
    (cD2 : PySem.W.hasDictIn K C2 = true)
    (cT2 : PySem.W.typeIn K (.ref C2) = some (.type "type"))
    (cX2 : PySem.W.excIn K C2 [.type "ValueError", .type "Exception", .type "BaseException", .type "object"] "ValueError.__new__" = true)
    (cK2 : PySem.W.keepIn K (.ref C2) = true)
    (cP2 : PySem.W.subIn K (.ref C2) (.ref C2) = some true)
    (cV2 : PySem.W.subIn K (.ref C2) (.type "ValueError") = some true)
    (cG2 : PySem.W.findIn K (.ref C2) "__getattribute__" = some (some (.builtin "BaseException.__getattribute__")))
    (cH2 : PySem.W.findIn K (.ref C2) "__getattr__" = some none)
    (cE2 : PySem.W.findIn K (.ref C2) "__class__" = some (some (.builtin "object.__class__")))
    (cM2 : PySem.W.mroIn K C2 (.type "object") = some true)
    (cA3 : PySem.W.nsIn K mainGlobals "Misfit" = some (some (.ref C3)))
    (cB3 : PySem.W.subIn K (.ref C3) (.type "BaseException") = some true)
    (cD3 : PySem.W.hasDictIn K C3 = true)
    (cT3 : PySem.W.typeIn K (.ref C3) = some (.type "type"))
    (cX3 : PySem.W.excIn K C3 [.type "ValueError", .type "Exception", .type "BaseException", .type "object"] "ValueError.__new__" = true)
    (cK3 : PySem.W.keepIn K (.ref C3) = true)
    (cP3 : PySem.W.subIn K (.ref C3) (.ref C3) = some true)
    (cV3 : PySem.W.subIn K (.ref C3) (.type "ValueError") = some true)
    (cG3 : PySem.W.findIn K (.ref C3) "__getattribute__" = some (some (.builtin "BaseException.__getattribute__")))
    (cH3 : PySem.W.findIn K (.ref C3) "__getattr__" = some none)
    (cE3 : PySem.W.findIn K (.ref C3) "__class__" = some (some (.builtin "object.__class__")))
    (cM3 : PySem.W.mroIn K C3 (.type "object") = some true)
    (cA4 : PySem.W.nsIn K mainGlobals "ByNought" = some (some (.ref C4)))
    (cB4 : PySem.W.subIn K (.ref C4) (.type "BaseException") = some true)
    (cD4 : PySem.W.hasDictIn K C4 = true)
    (cT4 : PySem.W.typeIn K (.ref C4) = some (.type "type"))
    (cX4 : PySem.W.excIn K C4 [.type "ValueError", .type "Exception", .type "BaseException", .type "object"] "ValueError.__new__" = true)
    (cK4 : PySem.W.keepIn K (.ref C4) = true)
    (cP4 : PySem.W.subIn K (.ref C4) (.ref C4) = some true)
    (cV4 : PySem.W.subIn K (.ref C4) (.type "ValueError") = some true)
    (cG4 : PySem.W.findIn K (.ref C4) "__getattribute__" = some (some (.builtin "BaseException.__getattribute__")))
    (cH4 : PySem.W.findIn K (.ref C4) "__getattr__" = some none)
    (cE4 : PySem.W.findIn K (.ref C4) "__class__" = some (some (.builtin "object.__class__")))
    (cM4 : PySem.W.mroIn K C4 (.type "object") = some true)
    (cA5 : PySem.W.nsIn K mainGlobals "TooGreat" = some (some (.ref C5)))
    (cB5 : PySem.W.subIn K (.ref C5) (.type "BaseException") = some true)
    (cD5 : PySem.W.hasDictIn K C5 = true)
    (cT5 : PySem.W.typeIn K (.ref C5) = some (.type "type"))
    (cX5 : PySem.W.excIn K C5 [.type "ValueError", .type "Exception", .type "BaseException", .type "object"] "ValueError.__new__" = true)
    (cK5 : PySem.W.keepIn K (.ref C5) = true)
    (cP5 : PySem.W.subIn K (.ref C5) (.ref C5) = some true)
    (cV5 : PySem.W.subIn K (.ref C5) (.type "ValueError") = some true)
    (cG5 : PySem.W.findIn K (.ref C5) "__getattribute__" = some (some (.builtin "BaseException.__getattribute__")))
    (cH5 : PySem.W.findIn K (.ref C5) "__getattr__" = some none)
    (cE5 : PySem.W.findIn K (.ref C5) "__class__" = some (some (.builtin "object.__class__")))
    (cM5 : PySem.W.mroIn K C5 (.type "object") = some true)
    (cn : PySem.W.specialIn K (.builtin "object.__class__") "__get__" = some (some (.builtin "getset_descriptor.__get__")))
    (ct : PySem.W.takesIn K (.builtin "object.__class__") = some true)
    (gMOST : PySem.W.nsIn K mainGlobals "MOST" = some (some (.int 1000000000000 tMOST)))
    (z0 : PySem.W.nsIn K mainGlobals "len" = some none) (z1 : PySem.W.nsIn K mainGlobals "abs" = some none) (z2 : PySem.W.nsIn K mainGlobals "max" = some none) (z3 : PySem.W.nsIn K mainGlobals "min" = some none) (z4 : PySem.W.nsIn K mainGlobals "sum" = some none) (z5 : PySem.W.nsIn K mainGlobals "all" = some none) (z6 : PySem.W.nsIn K mainGlobals "repr" = some none) (z7 : PySem.W.nsIn K mainGlobals "int" = some none) (z8 : PySem.W.nsIn K mainGlobals "list" = some none) (z9 : PySem.W.nsIn K mainGlobals "dict" = some none) (z10 : PySem.W.nsIn K mainGlobals "isinstance" = some none) (z11 : PySem.W.nsIn K mainGlobals "range" = some none) (z12 : PySem.W.nsIn K mainGlobals "enumerate" = some none) (z13 : PySem.W.nsIn K mainGlobals "zip" = some none) (z14 : PySem.W.nsIn K mainGlobals "reversed" = some none) (z15 : PySem.W.nsIn K mainGlobals "bool" = some none) (z16 : PySem.W.nsIn K mainGlobals "str" = some none) (z17 : PySem.W.nsIn K mainGlobals "tuple" = some none) :
    ∃ fd : FuncData, (∀ (s : Shared) (v : Value), BindsTo s fd ⟨[v], []⟩ [("_law_script", v)]) ∧ ∀ base : Heap, K.In base → base.Ns mainGlobals mg → SysAt base → FnG l.prog w K mg base 100 fa fd ["_law_script"] (spF tab K mg icl 100 23) := by
  have e := hfa.symm.trans (PySem.W.mg_of X G a23)
  cases e
  have F0 := fun_mk (st := top 11) l0 c0 k0
  have b0 := F0.binds (ps := f_is_of.ps) fun _ _ _ _ _ _ us hl => match us, hl with | [_, _], _ => rfl
  have d0 : DefAt tab cons icl K mg (top 11) f_is_of _ _ := ⟨F0, PySem.W.mg_of X G a0, b0, chk0⟩
  have F1 := fun_mk (st := top 14) l1 c1 k1
  have b1 := F1.binds (ps := f_reckoned.ps) fun _ _ _ _ _ _ us hl => match us, hl with | [_, _, _], _ => rfl
  have d1 : DefAt tab cons icl K mg (top 14) f_reckoned _ _ := ⟨F1, PySem.W.mg_of X G a1, b1, chk1⟩
  have F2 := fun_mk (st := top 15) l2 c2 k2
  have b2 := F2.binds (ps := f_named.ps) fun _ _ _ _ _ _ us hl => match us, hl with | [_, _, _], _ => rfl
  have d2 : DefAt tab cons icl K mg (top 15) f_named _ _ := ⟨F2, PySem.W.mg_of X G a2, b2, chk2⟩
  have F3 := fun_mk (st := top 16) l3 c3 k3
  have b3 := F3.binds (ps := f_value_of_sum.ps) fun _ _ _ _ _ _ us hl => match us, hl with | [_, _, _], _ => rfl
  have d3 : DefAt tab cons icl K mg (top 16) f_value_of_sum _ _ := ⟨F3, PySem.W.mg_of X G a3, b3, chk3⟩
  have F4 := fun_mk (st := top 17) l4 c4 k4
  have b4 := F4.binds (ps := f_value_of_if.ps) fun _ _ _ _ _ _ us hl => match us, hl with | [_, _, _], _ => rfl
  have d4 : DefAt tab cons icl K mg (top 17) f_value_of_if _ _ := ⟨F4, PySem.W.mg_of X G a4, b4, chk4⟩
  have F5 := fun_mk (st := top 18) l5 c5 k5
  have b5 := F5.binds (ps := f_value_of_field.ps) fun _ _ _ _ _ _ us hl => match us, hl with | [_, _, _], _ => rfl
  have d5 : DefAt tab cons icl K mg (top 18) f_value_of_field _ _ := ⟨F5, PySem.W.mg_of X G a5, b5, chk5⟩
  have F6 := fun_mk (st := top 19) l6 c6 k6
  have b6 := F6.binds (ps := f_value_of_with.ps) fun _ _ _ _ _ _ us hl => match us, hl with | [_, _, _], _ => rfl
  have d6 : DefAt tab cons icl K mg (top 19) f_value_of_with _ _ := ⟨F6, PySem.W.mg_of X G a6, b6, chk6⟩
  have F7 := fun_mk (st := top 20) l7 c7 k7
  have b7 := F7.binds (ps := f_value_of_case.ps) fun _ _ _ _ _ _ us hl => match us, hl with | [_, _, _], _ => rfl
  have d7 : DefAt tab cons icl K mg (top 20) f_value_of_case _ _ := ⟨F7, PySem.W.mg_of X G a7, b7, chk7⟩
  have F8 := fun_mk (st := top 21) l8 c8 k8
  have b8 := F8.binds (ps := f_value_of_again.ps) fun _ _ _ _ _ _ us hl => match us, hl with | [_, _, _], _ => rfl
  have d8 : DefAt tab cons icl K mg (top 21) f_value_of_again _ _ := ⟨F8, PySem.W.mg_of X G a8, b8, chk8⟩
  have F9 := fun_mk (st := top 22) l9 c9 k9
  have b9 := F9.binds (ps := f_place_of.ps) fun _ _ _ _ _ _ us hl => match us, hl with | [_, _], _ => rfl
  have d9 : DefAt tab cons icl K mg (top 22) f_place_of _ _ := ⟨F9, PySem.W.mg_of X G a9, b9, chk9⟩
  have F10 := fun_mk (st := top 23) l10 c10 k10
  have b10 := F10.binds (ps := f_value_of_call.ps) fun _ _ _ _ _ _ us hl => match us, hl with | [_, _, _], _ => rfl
  have d10 : DefAt tab cons icl K mg (top 23) f_value_of_call _ _ := ⟨F10, PySem.W.mg_of X G a10, b10, chk10⟩
  have F11 := fun_mk (st := top 25) l11 c11 k11
  have b11 := F11.binds (ps := f_law_cell_at.ps) fun _ _ _ _ _ _ us hl => match us, hl with | [_, _], _ => rfl
  have d11 : DefAt tab cons icl K mg (top 25) f_law_cell_at _ _ := ⟨F11, PySem.W.mg_of X G a11, b11, chk11⟩
  have F12 := fun_mk (st := top 26) l12 c12 k12
  have b12 := F12.binds (ps := f_law_name_by.ps) fun _ _ _ _ _ _ us hl => match us, hl with | [_], _ => rfl
  have d12 : DefAt tab cons icl K mg (top 26) f_law_name_by _ _ := ⟨F12, PySem.W.mg_of X G a12, b12, chk12⟩
  have F13 := fun_mk (st := top 27) l13 c13 k13
  have b13 := F13.binds (ps := f_law_size.ps) fun _ _ _ _ _ _ us hl => match us, hl with | [_], _ => rfl
  have d13 : DefAt tab cons icl K mg (top 27) f_law_size _ _ := ⟨F13, PySem.W.mg_of X G a13, b13, chk13⟩
  have F14 := fun_mk (st := top 28) l14 c14 k14
  have b14 := F14.binds (ps := f_law_of.ps) fun _ _ _ _ _ _ us hl => match us, hl with | [_, _, _], _ => rfl
  have d14 : DefAt tab cons icl K mg (top 28) f_law_of _ _ := ⟨F14, PySem.W.mg_of X G a14, b14, chk14⟩
  have F15 := fun_mk (st := top 29) l15 c15 k15
  have b15 := F15.binds (ps := f_law_record.ps) fun _ _ _ _ _ _ us hl => match us, hl with | [_, _, _], _ => rfl
  have d15 : DefAt tab cons icl K mg (top 29) f_law_record _ _ := ⟨F15, PySem.W.mg_of X G a15, b15, chk15⟩
  have F16 := fun_mk (st := top 30) l16 c16 k16
  have b16 := F16.binds (ps := f_law_field.ps) fun _ _ _ _ _ _ us hl => match us, hl with | [_, _, _], _ => rfl
  have d16 : DefAt tab cons icl K mg (top 30) f_law_field _ _ := ⟨F16, PySem.W.mg_of X G a16, b16, chk16⟩
  have F17 := fun_mk (st := top 31) l17 c17 k17
  have b17 := F17.binds (ps := f_law_with.ps) fun _ _ _ _ _ _ us hl => match us, hl with | [_, _, _], _ => rfl
  have d17 : DefAt tab cons icl K mg (top 31) f_law_with _ _ := ⟨F17, PySem.W.mg_of X G a17, b17, chk17⟩
  have F18 := fun_mk (st := top 32) l18 c18 k18
  have b18 := F18.binds (ps := f_law_choice.ps) fun _ _ _ _ _ _ us hl => match us, hl with | [_, _, _], _ => rfl
  have d18 : DefAt tab cons icl K mg (top 32) f_law_choice _ _ := ⟨F18, PySem.W.mg_of X G a18, b18, chk18⟩
  have F19 := fun_mk (st := top 33) l19 c19 k19
  have b19 := F19.binds (ps := f_law_case.ps) fun _ _ _ _ _ _ us hl => match us, hl with | [_, _, _], _ => rfl
  have d19 : DefAt tab cons icl K mg (top 33) f_law_case _ _ := ⟨F19, PySem.W.mg_of X G a19, b19, chk19⟩
  have F20 := fun_mk (st := top 34) l20 c20 k20
  have b20 := F20.binds (ps := f_law_if.ps) fun _ _ _ _ _ _ us hl => match us, hl with | [_, _], _ => rfl
  have d20 : DefAt tab cons icl K mg (top 34) f_law_if _ _ := ⟨F20, PySem.W.mg_of X G a20, b20, chk20⟩
  have F21 := fun_mk (st := top 35) l21 c21 k21
  have b21 := F21.binds (ps := f_law_step.ps) fun _ _ _ _ _ _ us hl => match us, hl with | [_, _, _], _ => rfl
  have d21 : DefAt tab cons icl K mg (top 35) f_law_step _ _ := ⟨F21, PySem.W.mg_of X G a21, b21, chk21⟩
  have F22 := fun_mk (st := top 36) l22 c22 k22
  have b22 := F22.binds (ps := f_law_alike.ps) fun _ _ _ _ _ _ us hl => match us, hl with | [_, _], _ => rfl
  have d22 : DefAt tab cons icl K mg (top 36) f_law_alike _ _ := ⟨F22, PySem.W.mg_of X G a22, b22, chk22⟩
  have F23 := fun_mk (st := top 37) l23 c23 k23
  have b23 := F23.binds (ps := f_law.ps) fun _ _ _ _ _ _ us hl => match us, hl with | [_], _ => rfl
  have d23 : DefAt tab cons icl K mg (top 37) f_law _ _ := ⟨F23, PySem.W.mg_of X G a23, b23, chk23⟩
  have O0 : ClsK K mg "LostName" C0 := ⟨PySem.W.mg_of X G cA0, cB0, cD0, cT0⟩
  have R0 : RsK K mg "LostName" C0 := ⟨O0, cX0, cK0, cP0, cV0, ⟨cG0, cH0, cB0, cD0, cE0, cn, ct, cM0⟩⟩
  have O1 : ClsK K mg "LostField" C1 := ⟨PySem.W.mg_of X G cA1, cB1, cD1, cT1⟩
  have R1 : RsK K mg "LostField" C1 := ⟨O1, cX1, cK1, cP1, cV1, ⟨cG1, cH1, cB1, cD1, cE1, cn, ct, cM1⟩⟩
  have O2 : ClsK K mg "LostShape" C2 := ⟨PySem.W.mg_of X G cA2, cB2, cD2, cT2⟩
  have R2 : RsK K mg "LostShape" C2 := ⟨O2, cX2, cK2, cP2, cV2, ⟨cG2, cH2, cB2, cD2, cE2, cn, ct, cM2⟩⟩
  have O3 : ClsK K mg "Misfit" C3 := ⟨PySem.W.mg_of X G cA3, cB3, cD3, cT3⟩
  have R3 : RsK K mg "Misfit" C3 := ⟨O3, cX3, cK3, cP3, cV3, ⟨cG3, cH3, cB3, cD3, cE3, cn, ct, cM3⟩⟩
  have O4 : ClsK K mg "ByNought" C4 := ⟨PySem.W.mg_of X G cA4, cB4, cD4, cT4⟩
  have R4 : RsK K mg "ByNought" C4 := ⟨O4, cX4, cK4, cP4, cV4, ⟨cG4, cH4, cB4, cD4, cE4, cn, ct, cM4⟩⟩
  have O5 : ClsK K mg "TooGreat" C5 := ⟨PySem.W.mg_of X G cA5, cB5, cD5, cT5⟩
  have R5 : RsK K mg "TooGreat" C5 := ⟨O5, cX5, cK5, cP5, cV5, ⟨cG5, cH5, cB5, cD5, cE5, cn, ct, cM5⟩⟩
  have ea : ErrAt tab icl K mg := by
    refine ⟨kn_of (by decide +kernel), fun c hc => ?_, fun c hc => ?_, fun c hc => ?_⟩
    · skip
      have hc : _ ∈ (["LostName", "LostField", "LostShape", "Misfit", "ByNought", "TooGreat"] : List Str) := hc
      simp only [List.mem_cons, List.not_mem_nil, or_false] at hc
      rcases hc with rfl | rfl | rfl | rfl | rfl | rfl
      · exact ⟨C0, O0.m, R0.e⟩
      · exact ⟨C1, O1.m, R1.e⟩
      · exact ⟨C2, O2.m, R2.e⟩
      · exact ⟨C3, O3.m, R3.e⟩
      · exact ⟨C4, O4.m, R4.e⟩
      · exact ⟨C5, O5.m, R5.e⟩
    · skip
      cases hc
    · skip
      cases hc
  have tp : TopAt tab cons icl K mg := by
    refine ⟨fun n hn => ?_, fun x i h => ?_, ea, fun c m j p p2 pos hc => ?_⟩
    rotate_left
    · skip
      have h : (x, i) ∈ ([("MOST", 1000000000000)] : List (Str × Int)) := h
      simp only [List.mem_cons, List.not_mem_nil, or_false, Prod.mk.injEq] at h
      rcases h with ⟨rfl, rfl⟩
      · exact ⟨tMOST, PySem.W.mg_of X G gMOST⟩
    · skip
      have hc : _ ∈ (["LostName", "LostField", "LostShape", "Misfit", "ByNought", "TooGreat"] : List Str) := hc
      simp only [List.mem_cons, List.not_mem_nil, or_false] at hc
      rcases hc with rfl | rfl | rfl | rfl | rfl | rfl
      · exact R0.mk_ (by decide)
      · exact R1.mk_ (by decide)
      · exact R2.mk_ (by decide)
      · exact R3.mk_ (by decide)
      · exact R4.mk_ (by decide)
      · exact R5.mk_ (by decide)
    simp only [List.mem_cons, List.not_mem_nil, or_false] at hn
    rcases hn with e | e | e | e | e | e | e | e | e | e | e | e | e | e | e | e | e | e
    · rw [e]; exact PySem.W.mg_none_of X G z0
    · rw [e]; exact PySem.W.mg_none_of X G z1
    · rw [e]; exact PySem.W.mg_none_of X G z2
    · rw [e]; exact PySem.W.mg_none_of X G z3
    · rw [e]; exact PySem.W.mg_none_of X G z4
    · rw [e]; exact PySem.W.mg_none_of X G z5
    · rw [e]; exact PySem.W.mg_none_of X G z6
    · rw [e]; exact PySem.W.mg_none_of X G z7
    · rw [e]; exact PySem.W.mg_none_of X G z8
    · rw [e]; exact PySem.W.mg_none_of X G z9
    · rw [e]; exact PySem.W.mg_none_of X G z10
    · rw [e]; exact PySem.W.mg_none_of X G z11
    · rw [e]; exact PySem.W.mg_none_of X G z12
    · rw [e]; exact PySem.W.mg_none_of X G z13
    · rw [e]; exact PySem.W.mg_none_of X G z14
    · rw [e]; exact PySem.W.mg_none_of X G z15
    · rw [e]; exact PySem.W.mg_none_of X G z16
    · rw [e]; exact PySem.W.mg_none_of X G z17
  have defs : ∀ (f : Nat) (fn : Fn), tab.fns[f]? = some fn → ∃ st fa fd, DefAt tab cons icl K mg st fn fa fd := fun f fn hf => match f, hf with
    | 0, hf => by have e : f_is_of = fn := Option.some.inj hf; rw [← e]; exact ⟨_, _, _, d0⟩
    | 1, hf => by have e : f_reckoned = fn := Option.some.inj hf; rw [← e]; exact ⟨_, _, _, d1⟩
    | 2, hf => by have e : f_named = fn := Option.some.inj hf; rw [← e]; exact ⟨_, _, _, d2⟩
    | 3, hf => by have e : f_value_of_sum = fn := Option.some.inj hf; rw [← e]; exact ⟨_, _, _, d3⟩
    | 4, hf => by have e : f_value_of_if = fn := Option.some.inj hf; rw [← e]; exact ⟨_, _, _, d4⟩
    | 5, hf => by have e : f_value_of_field = fn := Option.some.inj hf; rw [← e]; exact ⟨_, _, _, d5⟩
    | 6, hf => by have e : f_value_of_with = fn := Option.some.inj hf; rw [← e]; exact ⟨_, _, _, d6⟩
    | 7, hf => by have e : f_value_of_case = fn := Option.some.inj hf; rw [← e]; exact ⟨_, _, _, d7⟩
    | 8, hf => by have e : f_value_of_again = fn := Option.some.inj hf; rw [← e]; exact ⟨_, _, _, d8⟩
    | 9, hf => by have e : f_place_of = fn := Option.some.inj hf; rw [← e]; exact ⟨_, _, _, d9⟩
    | 10, hf => by have e : f_value_of_call = fn := Option.some.inj hf; rw [← e]; exact ⟨_, _, _, d10⟩
    | 11, hf => by have e : f_law_cell_at = fn := Option.some.inj hf; rw [← e]; exact ⟨_, _, _, d11⟩
    | 12, hf => by have e : f_law_name_by = fn := Option.some.inj hf; rw [← e]; exact ⟨_, _, _, d12⟩
    | 13, hf => by have e : f_law_size = fn := Option.some.inj hf; rw [← e]; exact ⟨_, _, _, d13⟩
    | 14, hf => by have e : f_law_of = fn := Option.some.inj hf; rw [← e]; exact ⟨_, _, _, d14⟩
    | 15, hf => by have e : f_law_record = fn := Option.some.inj hf; rw [← e]; exact ⟨_, _, _, d15⟩
    | 16, hf => by have e : f_law_field = fn := Option.some.inj hf; rw [← e]; exact ⟨_, _, _, d16⟩
    | 17, hf => by have e : f_law_with = fn := Option.some.inj hf; rw [← e]; exact ⟨_, _, _, d17⟩
    | 18, hf => by have e : f_law_choice = fn := Option.some.inj hf; rw [← e]; exact ⟨_, _, _, d18⟩
    | 19, hf => by have e : f_law_case = fn := Option.some.inj hf; rw [← e]; exact ⟨_, _, _, d19⟩
    | 20, hf => by have e : f_law_if = fn := Option.some.inj hf; rw [← e]; exact ⟨_, _, _, d20⟩
    | 21, hf => by have e : f_law_step = fn := Option.some.inj hf; rw [← e]; exact ⟨_, _, _, d21⟩
    | 22, hf => by have e : f_law_alike = fn := Option.some.inj hf; rw [← e]; exact ⟨_, _, _, d22⟩
    | 23, hf => by have e : f_law = fn := Option.some.inj hf; rw [← e]; exact ⟨_, _, _, d23⟩
    | _ + 24, hf => by have z : (none : Option Fn) = some fn := hf; cases z
  refine ⟨PySem.W.fnOf "law" "law" (defArgs (top 37)) (defBody (top 37)) (defScope (top 37)) .none kV23 dc23 pm23 an23 cd23 ct23, fun s v => .of_eq rfl, fun base _ _ sys => ?_⟩
  exact fn_all (P := l.prog) (w := w) tp sys defs 100 23 _ rfl _ _ _ d23
theorem ints_at {O : Addr → Prop} {H : Hp} : ∀ ns : List Int, AtL O H (ns.map D.int) (ns.map V.int)
  | [] => .nil
  | n :: r => .cons at_int (ints_at r)
theorem walk {l : PySem.W.OpenLaw} {q : Program} {loose : List Str} {XP : (Str → Option Value) → Heap → Prop} {YP : World → Heap → Prop} {d : DefRec} {K : Params → PySem.W.Frag} (hn : l.most = some 63) (hdf : d.params.defaults = []) (himp : PyProof.Rows.importsNone q = true)
    (hY : ∀ (w : World) (h : Heap), YP w h → (K w.params).In h)
    (plain : ∀ ns : List Int, ns.length ≤ 63 → callN tab 100 23 [.bor (.lst (ns.map D.int))] = .ok (.val (.bl true)))
    (F : ∀ (w : World) (mg : Str → Option Value) (fa : Addr) (h : Heap), (K w.params).In h → h.Ns mainGlobals mg → mg d.name = some (.ref fa) →
      ∃ fd : FuncData, (∀ (s : Shared) (u : Value), BindsTo s fd ⟨[u], []⟩ [("_law_script", u)]) ∧ ∀ base : Heap, (K w.params).In base → base.Ns mainGlobals mg → SysAt base → FnG l.prog w (K w.params) mg base 100 fa fd ["_law_script"] (spF tab (K w.params) mg icl 100 23)) :
    PySem.W.WalkO q loose XP YP l.row.toRowW d [] (fun f vs => PySem.call f vs) := by
  refine walk_ofG (n := 63) (k := 100) (sp := fun w mg => spF tab (K w.params) mg icl 100 23) hn (by decide) hdf himp ⟨rfl, by decide, by decide⟩ rfl hY F ?_
  intro w mg H a ns hl only hS
  refine ⟨fun _ => False, [.bor (.lst (ns.map D.int))], fun _ z => z.elim, ⟨.ref a, [], rfl, ⟨a, rfl, _, hS, ints_at ns⟩, rfl⟩, ?_⟩
  rw [plain ns hl]
  exact fun v H' _ r => any_bl (ResOk.any r)
end K05
set_option Elab.async false
set_option linter.all false
set_option maxRecDepth 100000
set_option maxHeartbeats 4000000
set_option autoImplicit false
namespace K05
open PySem Ev L2
section
variable {call : Nat → List RV → Rs RV} {sub : Sub} {e : En}
theorem it_dct {i : Nat} {c : Cel} {rv : RV} {ks : List (Str × D)} (he : e[i]? = some c) (hc : cellR (some c) = .ok rv) (rd : rv.d = .dct ks) (hl : ks.length ≤ lim) : evIt call sub e (.ex (.var i)) = .ok (ks.map fun kv => .str kv.1) := by
  rw [i_ex, x_var, he, hc]
  exact items_dct rd hl
theorem it_lst {i : Nat} {c : Cel} {rv : RV} {xs : List D} (he : e[i]? = some c) (hc : cellR (some c) = .ok rv) (rd : rv.d = .lst xs) (hl : xs.length ≤ lim) : evIt call sub e (.ex (.var i)) = .ok xs := by
  rw [i_ex, x_var, he, hc]
  show itemsOf rv = _
  unfold itemsOf
  rw [rd]
  exact if_pos hl
end
theorem comp_keep {one : D → Rs (Option D)} {P : Str → Prop} : ∀ {its : List Str}, (∀ x, x ∈ its → (one (.str x) = .ok (some (.str x)) ∧ P x) ∨ one (.str x) = .ok none) → ∃ l : List Str, compL one (its.map D.str) = .ok (l.map D.str) ∧ (∀ x, x ∈ l → x ∈ its ∧ P x) ∧ l.length ≤ its.length
  | [], _ => ⟨[], rfl, fun x h => (by cases h), Nat.le_refl _⟩
  | a :: r, h => by
    obtain ⟨l, e1, e2, e3⟩ := comp_keep (P := P) fun x hx => h x (List.mem_cons_of_mem _ hx)
    rw [List.map_cons]
    unfold compL
    rcases h a List.mem_cons_self with ⟨q, p⟩ | q
    · refine ⟨a :: l, ?_, fun x hx => ?_, ?_⟩
      · rw [q, bind_ok, e1]; rfl
      · rcases List.mem_cons.mp hx with e | hx
        · rw [e]; exact ⟨List.mem_cons_self, p⟩
        · exact ⟨List.mem_cons_of_mem _ (e2 x hx).1, (e2 x hx).2⟩
      · rw [List.length_cons, List.length_cons]; omega
    · refine ⟨l, ?_, fun x hx => ⟨List.mem_cons_of_mem _ (e2 x hx).1, (e2 x hx).2⟩, ?_⟩
      · rw [q, bind_ok, e1]; rfl
      · rw [List.length_cons]; omega
theorem comp_ints {one : D → Rs (Option D)} : ∀ {its : List D}, (∀ d, d ∈ its → ∃ z, one d = .ok (some (.int z))) → ∃ zs : List Int, compL one its = .ok (zs.map D.int)
  | [], _ => ⟨[], rfl⟩
  | a :: r, h => by
    obtain ⟨l, e1⟩ := comp_ints fun x hx => h x (List.mem_cons_of_mem _ hx)
    obtain ⟨z, q⟩ := h a List.mem_cons_self
    refine ⟨z :: l, ?_⟩
    unfold compL
    rw [q, bind_ok, e1]
    rfl
theorem ints_map : ∀ (zs : List Int), intsOf (zs.map D.int) = .ok zs
  | [] => rfl
  | z :: r => by
    show (intsOf (r.map D.int)).bind _ = _
    rw [ints_map r]
    rfl
theorem ne_ii (i : Int) : cmpop .ne (.int i) (.int i) = .ok (.val (.bl false)) := by
  have e : D.eqv (.int i) (.int i) = true := by simp [D.eqv]
  show (if eqOk (.int i) (.int i) = true ∧ neOk (.int i) (.int i) = true then Rs.ok (RV.val (.bl (!D.eqv (.int i) (.int i)))) else Rs.stuck) = _
  rw [if_pos ⟨rfl, rfl⟩, e]
  rfl
theorem eq_bb (i : Bool) : cmpop .eq (.bl i) (.bl i) = .ok (.val (.bl true)) := by
  rw [c_eqd (eq_flat rfl)]
  have e : D.eqv (.bl i) (.bl i) = true := by simp [D.eqv]
  rw [e]
/-- the values of a going -/
inductive VV (B : Nat) : Nat → D → Prop where
  | int {m : Nat} {i : Int} : VV B m (.int i)
  | bl {m : Nat} {b : Bool} : VV B m (.bl b)
  | cho {m : Nat} {s : Str} {v : D} (hs : NmOk s) (h : VV B m v) : VV B (m + 1) (.tup [.str s, v])
  | rcd {m : Nat} {ks : List (Str × D)} (k : Keys ks) (l : ks.length ≤ B) (n : ∀ p, p ∈ ks → NmOk p.1) (h : ∀ p, p ∈ ks → VV B m p.2) : VV B (m + 1) (.dct ks)
theorem VV.mono {B m : Nat} {d : D} (h : VV B m d) : ∀ {B' m' : Nat}, B ≤ B' → m ≤ m' → VV B' m' d := by
  induction h with
  | int => intro _ _ _ _; exact .int
  | bl => intro _ _ _ _; exact .bl
  | cho hs h ih =>
    intro B' m' hb hm
    cases m' with
    | zero => omega
    | succ m' => exact .cho hs (ih hb (by omega))
  | rcd k l n h ih =>
    intro B' m' hb hm
    cases m' with
    | zero => omega
    | succ m' => exact .rcd k (Nat.le_trans l hb) n fun p hp => ih p hp hb (by omega)
theorem VV.cho_inv {B m : Nat} {s : Str} {v : D} (h : VV B m (.tup [.str s, v])) : NmOk s ∧ VV B m v := by
  cases h with
  | cho hs h => exact ⟨hs, h.mono (Nat.le_refl _) (by omega)⟩
theorem VV.rcd_inv {B m : Nat} {ks : List (Str × D)} (h : VV B m (.dct ks)) : Keys ks ∧ ks.length ≤ B ∧ (∀ p, p ∈ ks → NmOk p.1) ∧ ∀ p, p ∈ ks → VV B m p.2 := by
  cases h with
  | rcd k l n h => exact ⟨k, l, n, fun p hp => (h p hp).mono (Nat.le_refl _) (by omega)⟩
theorem VV.tup_form {B m : Nat} {xs : List D} (h : VV B m (.tup xs)) : ∃ s v, xs = [.str s, v] := by
  cases h with
  | cho hs h => exact ⟨_, _, rfl⟩
theorem size_ok {B : Nat} (hB : B ≤ lim) : ∀ (m k : Nat) (v : D) (rv : RV), VV B m v → Held rv v → m + 1 ≤ k → ∃ z, callN tab k 13 [rv] = .ok (.val (.int z))
  | m, 0, v, rv, hv, hr, hk => by omega
  | m, k + 1, v, rv, hv, ⟨c, hc, rd, ec⟩, hk => by
    rw [call_fin tab k 13 f_law_size _ rfl rfl]
    have e0 : startE f_law_size.N.length [rv] = [c, .no] := by rw [← ec]; rfl
    rw [e0]
    cases hv with
    | @int _ i =>
      have t1 : ([Ty.tuple].any (D.int i).isTy) = false := rfl
      have t2 : ([Ty.dict].any (D.int i).isTy) = false := rfl
      exact ⟨1, by simp only [f_law_size, x_str, x_int, x_var, x_bin, x_cmp, x_bl, x_sub, x_slc, x_call, x_tup, x_lst, x_dct, x_and, x_or, x_not, x_isi, x_bfn, xs_nil, xs_cons, bind_ok, d_val, d_own, d_bor, c_eqi, c_eqs, c_lt, c_le, c_gt, c_ge, bl_val, cell_val, cell_own, cell_lent, cell_bor, vas_nil, vas_cons, va_val, va_own, b_add, b_sub, and_nil, or_nil, q_and, q_or, q_at, q_af, q_ot, q_of, c_ind, c_nind, pu_nil, mg_nil, q_an, q_on, c_nes, c_neb, c_eqb, Bool.not_true, Bool.not_false, q_cons, q_nx, q_ret, q_if, q_tt, q_ff, ss_nil, ss_frz, s_asg, s_ret, out_ok, give_val, give_own, fin_ret, fin_nx, ret_val, ret_own, frz_own, frz_val, frz_bor, List.getD_cons_zero, List.getD_cons_succ, startE, List.map_cons, List.map_nil, List.length_cons, List.length_nil, List.replicate, List.cons_append, List.nil_append, List.getElem?_cons_zero, List.getElem?_cons_succ, List.set_cons_zero, List.set_cons_succ, Nat.reduceSub, Nat.reduceAdd, decide_true, decide_false, Int.reduceAdd, Int.reduceSub, beq_self_eq_true, Bool.false_eq_true, if_false, if_true, hc, rd, t1, t2]⟩
    | @bl _ i =>
      have t1 : ([Ty.tuple].any (D.bl i).isTy) = false := rfl
      have t2 : ([Ty.dict].any (D.bl i).isTy) = false := rfl
      exact ⟨1, by simp only [f_law_size, x_str, x_int, x_var, x_bin, x_cmp, x_bl, x_sub, x_slc, x_call, x_tup, x_lst, x_dct, x_and, x_or, x_not, x_isi, x_bfn, xs_nil, xs_cons, bind_ok, d_val, d_own, d_bor, c_eqi, c_eqs, c_lt, c_le, c_gt, c_ge, bl_val, cell_val, cell_own, cell_lent, cell_bor, vas_nil, vas_cons, va_val, va_own, b_add, b_sub, and_nil, or_nil, q_and, q_or, q_at, q_af, q_ot, q_of, c_ind, c_nind, pu_nil, mg_nil, q_an, q_on, c_nes, c_neb, c_eqb, Bool.not_true, Bool.not_false, q_cons, q_nx, q_ret, q_if, q_tt, q_ff, ss_nil, ss_frz, s_asg, s_ret, out_ok, give_val, give_own, fin_ret, fin_nx, ret_val, ret_own, frz_own, frz_val, frz_bor, List.getD_cons_zero, List.getD_cons_succ, startE, List.map_cons, List.map_nil, List.length_cons, List.length_nil, List.replicate, List.cons_append, List.nil_append, List.getElem?_cons_zero, List.getElem?_cons_succ, List.set_cons_zero, List.set_cons_succ, Nat.reduceSub, Nat.reduceAdd, decide_true, decide_false, Int.reduceAdd, Int.reduceSub, beq_self_eq_true, Bool.false_eq_true, if_false, if_true, hc, rd, t1, t2]⟩
    | @cho m s v hs h =>
      have t1 : ([Ty.tuple].any (D.tup [.str s, v]).isTy) = true := rfl
      obtain ⟨z, q⟩ := size_ok hB m k v (.val v) h (held_val v) (by omega)
      exact ⟨1 + z, by simp only [f_law_size, x_str, x_int, x_var, x_bin, x_cmp, x_bl, x_sub, x_slc, x_call, x_tup, x_lst, x_dct, x_and, x_or, x_not, x_isi, x_bfn, xs_nil, xs_cons, bind_ok, d_val, d_own, d_bor, c_eqi, c_eqs, c_lt, c_le, c_gt, c_ge, bl_val, cell_val, cell_own, cell_lent, cell_bor, vas_nil, vas_cons, va_val, va_own, b_add, b_sub, and_nil, or_nil, q_and, q_or, q_at, q_af, q_ot, q_of, c_ind, c_nind, pu_nil, mg_nil, q_an, q_on, c_nes, c_neb, c_eqb, Bool.not_true, Bool.not_false, q_cons, q_nx, q_ret, q_if, q_tt, q_ff, ss_nil, ss_frz, s_asg, s_ret, out_ok, give_val, give_own, fin_ret, fin_nx, ret_val, ret_own, frz_own, frz_val, frz_bor, List.getD_cons_zero, List.getD_cons_succ, startE, List.map_cons, List.map_nil, List.length_cons, List.length_nil, List.replicate, List.cons_append, List.nil_append, List.getElem?_cons_zero, List.getElem?_cons_succ, List.set_cons_zero, List.set_cons_succ, Nat.reduceSub, Nat.reduceAdd, decide_true, decide_false, Int.reduceAdd, Int.reduceSub, beq_self_eq_true, Bool.false_eq_true, if_false, if_true, hc, rd, t1, s2_1, q]⟩
    | @rcd m ks kk l n h =>
      have t1 : ([Ty.tuple].any (D.dct ks).isTy) = false := rfl
      have t2 : ([Ty.dict].any (D.dct ks).isTy) = true := rfl
      have hl : ks.length ≤ lim := by omega
      have ec : ∃ zs : List Int, evX (callN tab k) tab.sub [c, .no] (.comp (.call 13 (.cons (.sub (.var 0) (.var 1)) .nil)) [1] (.ex (.var 0)) (.cbl true)) = .ok (.own (.lst (zs.map D.int))) := by
        rw [x_comp, it_dct rfl hc rd hl, bind_ok, if_pos (by rw [List.length_map]; exact hl)]
        obtain ⟨zs, q⟩ := comp_ints (its := ks.map fun kv => .str kv.1) (one := fun d => ((setT [1] d (wipeS [1] [c, .no])).bind fun e' =>
          ((evX (callN tab k) tab.sub e' (.cbl true)).bind asBl).bind fun b => if b = true then (evX (callN tab k) tab.sub e' (.call 13 (.cons (.sub (.var 0) (.var 1)) .nil))).bind fun y => (asVal y).bind fun d => .ok (some d) else .ok none).noX) (fun d hd => by
            obtain ⟨p, hp, e⟩ := List.mem_map.mp hd
            subst e
            obtain ⟨z, q⟩ := size_ok hB m k p.2 (.val p.2) (h p hp) (held_val _) (by omega)
            refine ⟨z, ?_⟩
            have hs : List.set (wipeS [1] [c, .no]) 1 (.val (.str p.1)) = [c, .val (.str p.1)] := rfl
            rw [set_one, bind_ok, hs]
            simp only [x_str, x_int, x_var, x_bin, x_cmp, x_bl, x_sub, x_slc, x_call, x_tup, x_lst, x_dct, x_and, x_or, x_not, x_isi, x_bfn, xs_nil, xs_cons, bind_ok, d_val, d_own, d_bor, c_eqi, c_eqs, c_lt, c_le, c_gt, c_ge, bl_val, cell_val, cell_own, cell_lent, cell_bor, vas_nil, vas_cons, va_val, va_own, b_add, b_sub, and_nil, or_nil, q_and, q_or, q_at, q_af, q_ot, q_of, c_ind, c_nind, pu_nil, mg_nil, q_an, q_on, c_nes, c_neb, c_eqb, Bool.not_true, Bool.not_false, q_cons, q_nx, q_ret, q_if, q_tt, q_ff, ss_nil, ss_frz, s_asg, s_ret, out_ok, give_val, give_own, fin_ret, fin_nx, ret_val, ret_own, frz_own, frz_val, frz_bor, List.getD_cons_zero, List.getD_cons_succ, startE, List.map_cons, List.map_nil, List.length_cons, List.length_nil, List.replicate, List.cons_append, List.nil_append, List.getElem?_cons_zero, List.getElem?_cons_succ, List.set_cons_zero, List.set_cons_succ, Nat.reduceSub, Nat.reduceAdd, decide_true, decide_false, Int.reduceAdd, Int.reduceSub, beq_self_eq_true, Bool.false_eq_true, if_false, if_true, hc, rd, sub_dct (look_keys kk (k := p.1) (v := p.2) hp), q, noX_ok])
        rw [q]
        exact ⟨zs, rfl⟩
      obtain ⟨zs, ec⟩ := ec
      have su : bfnop .sum [.lst (zs.map D.int)] = .ok (.val (.int zs.sum)) := by
        show (intsOf _).bind _ = _
        rw [ints_map]
        rfl
      exact ⟨1 + zs.sum, by simp only [f_law_size, x_str, x_int, x_var, x_bin, x_cmp, x_bl, x_sub, x_slc, x_call, x_tup, x_lst, x_dct, x_and, x_or, x_not, x_isi, x_bfn, xs_nil, xs_cons, bind_ok, d_val, d_own, d_bor, c_eqi, c_eqs, c_lt, c_le, c_gt, c_ge, bl_val, cell_val, cell_own, cell_lent, cell_bor, vas_nil, vas_cons, va_val, va_own, b_add, b_sub, and_nil, or_nil, q_and, q_or, q_at, q_af, q_ot, q_of, c_ind, c_nind, pu_nil, mg_nil, q_an, q_on, c_nes, c_neb, c_eqb, Bool.not_true, Bool.not_false, q_cons, q_nx, q_ret, q_if, q_tt, q_ff, ss_nil, ss_frz, s_asg, s_ret, out_ok, give_val, give_own, fin_ret, fin_nx, ret_val, ret_own, frz_own, frz_val, frz_bor, List.getD_cons_zero, List.getD_cons_succ, startE, List.map_cons, List.map_nil, List.length_cons, List.length_nil, List.replicate, List.cons_append, List.nil_append, List.getElem?_cons_zero, List.getElem?_cons_succ, List.set_cons_zero, List.set_cons_succ, Nat.reduceSub, Nat.reduceAdd, decide_true, decide_false, Int.reduceAdd, Int.reduceSub, beq_self_eq_true, Bool.false_eq_true, if_false, if_true, hc, rd, t1, t2, ec, su]⟩
theorem alike_ok {B : Nat} (hB : B ≤ lim) : ∀ (m k : Nat) (v : D) (r1 r2 : RV), VV B m v → Held r1 v → Held r2 v → m + 1 ≤ k → callN tab k 22 [r1, r2] = .ok (.val (.bl true))
  | m, 0, v, r1, r2, hv, h1, h2, hk => by omega
  | m, k + 1, v, r1, r2, hv, ⟨c, hc, rd, ec⟩, ⟨c', hc', rd', ec'⟩, hk => by
    rw [call_fin tab k 22 f_law_alike _ rfl rfl]
    have e0 : startE f_law_alike.N.length [r1, r2] = [c, c', .no] := by rw [← ec, ← ec']; rfl
    rw [e0]
    cases hv with
    | @int _ i =>
      have t1 : ([Ty.bool].any (D.int i).isTy) = false := rfl
      have t2 : ([Ty.int].any (D.int i).isTy) = true := rfl
      simp only [f_law_alike, x_str, x_int, x_var, x_bin, x_cmp, x_bl, x_sub, x_slc, x_call, x_tup, x_lst, x_dct, x_and, x_or, x_not, x_isi, x_bfn, xs_nil, xs_cons, bind_ok, d_val, d_own, d_bor, c_eqi, c_eqs, c_lt, c_le, c_gt, c_ge, bl_val, cell_val, cell_own, cell_lent, cell_bor, vas_nil, vas_cons, va_val, va_own, b_add, b_sub, and_nil, or_nil, q_and, q_or, q_at, q_af, q_ot, q_of, c_ind, c_nind, pu_nil, mg_nil, q_an, q_on, c_nes, c_neb, c_eqb, Bool.not_true, Bool.not_false, q_cons, q_nx, q_ret, q_if, q_tt, q_ff, ss_nil, ss_frz, s_asg, s_ret, out_ok, give_val, give_own, fin_ret, fin_nx, ret_val, ret_own, frz_own, frz_val, frz_bor, List.getD_cons_zero, List.getD_cons_succ, startE, List.map_cons, List.map_nil, List.length_cons, List.length_nil, List.replicate, List.cons_append, List.nil_append, List.getElem?_cons_zero, List.getElem?_cons_succ, List.set_cons_zero, List.set_cons_succ, Nat.reduceSub, Nat.reduceAdd, decide_true, decide_false, Int.reduceAdd, Int.reduceSub, beq_self_eq_true, Bool.false_eq_true, if_false, if_true, hc, rd, hc', rd', t1, t2, eq_bb]
    | @bl _ i =>
      have t1 : ([Ty.bool].any (D.bl i).isTy) = true := rfl
      have t2 : ([Ty.int].any (D.bl i).isTy) = true := rfl
      simp only [f_law_alike, x_str, x_int, x_var, x_bin, x_cmp, x_bl, x_sub, x_slc, x_call, x_tup, x_lst, x_dct, x_and, x_or, x_not, x_isi, x_bfn, xs_nil, xs_cons, bind_ok, d_val, d_own, d_bor, c_eqi, c_eqs, c_lt, c_le, c_gt, c_ge, bl_val, cell_val, cell_own, cell_lent, cell_bor, vas_nil, vas_cons, va_val, va_own, b_add, b_sub, and_nil, or_nil, q_and, q_or, q_at, q_af, q_ot, q_of, c_ind, c_nind, pu_nil, mg_nil, q_an, q_on, c_nes, c_neb, c_eqb, Bool.not_true, Bool.not_false, q_cons, q_nx, q_ret, q_if, q_tt, q_ff, ss_nil, ss_frz, s_asg, s_ret, out_ok, give_val, give_own, fin_ret, fin_nx, ret_val, ret_own, frz_own, frz_val, frz_bor, List.getD_cons_zero, List.getD_cons_succ, startE, List.map_cons, List.map_nil, List.length_cons, List.length_nil, List.replicate, List.cons_append, List.nil_append, List.getElem?_cons_zero, List.getElem?_cons_succ, List.set_cons_zero, List.set_cons_succ, Nat.reduceSub, Nat.reduceAdd, decide_true, decide_false, Int.reduceAdd, Int.reduceSub, beq_self_eq_true, Bool.false_eq_true, if_false, if_true, hc, rd, hc', rd', t1, t2, eq_bb]
    | @cho m s v hs h =>
      have t1 : ([Ty.tuple].any (D.tup [.str s, v]).isTy) = true := rfl
      have t2 : ([Ty.bool].any (D.tup [.str s, v]).isTy) = false := rfl
      have t3 : ([Ty.int].any (D.tup [.str s, v]).isTy) = false := rfl
      have le : bfnop .len [.tup [.str s, v]] = .ok (.val (.int 2)) := rfl
      have q := alike_ok hB m k v (.val v) (.val v) h (held_val v) (held_val v) (by omega)
      have dd : decide (s = s) = true := decide_eq_true rfl
      simp only [f_law_alike, x_str, x_int, x_var, x_bin, x_cmp, x_bl, x_sub, x_slc, x_call, x_tup, x_lst, x_dct, x_and, x_or, x_not, x_isi, x_bfn, xs_nil, xs_cons, bind_ok, d_val, d_own, d_bor, c_eqi, c_eqs, c_lt, c_le, c_gt, c_ge, bl_val, cell_val, cell_own, cell_lent, cell_bor, vas_nil, vas_cons, va_val, va_own, b_add, b_sub, and_nil, or_nil, q_and, q_or, q_at, q_af, q_ot, q_of, c_ind, c_nind, pu_nil, mg_nil, q_an, q_on, c_nes, c_neb, c_eqb, Bool.not_true, Bool.not_false, q_cons, q_nx, q_ret, q_if, q_tt, q_ff, ss_nil, ss_frz, s_asg, s_ret, out_ok, give_val, give_own, fin_ret, fin_nx, ret_val, ret_own, frz_own, frz_val, frz_bor, List.getD_cons_zero, List.getD_cons_succ, startE, List.map_cons, List.map_nil, List.length_cons, List.length_nil, List.replicate, List.cons_append, List.nil_append, List.getElem?_cons_zero, List.getElem?_cons_succ, List.set_cons_zero, List.set_cons_succ, Nat.reduceSub, Nat.reduceAdd, decide_true, decide_false, Int.reduceAdd, Int.reduceSub, beq_self_eq_true, Bool.false_eq_true, if_false, if_true, hc, rd, hc', rd', t1, t2, t3, s2_0, s2_1, le, dd, q]
    | @rcd m ks kk l n h =>
      have t1 : ([Ty.tuple].any (D.dct ks).isTy) = false := rfl
      have t2 : ([Ty.dict].any (D.dct ks).isTy) = true := rfl
      have t3 : ([Ty.bool].any (D.dct ks).isTy) = false := rfl
      have t4 : ([Ty.int].any (D.dct ks).isTy) = false := rfl
      have hl : ks.length ≤ lim := by omega
      obtain ⟨L, f1, f2⟩ := all_names (call := callN tab k) (sub := tab.sub) (e := [c, c', .no]) (elt := (.and (.cons (.cmp .inn (.var 2) (.var 0)) (.cons (.call 22 (.cons (.sub (.var 0) (.var 2)) (.cons (.sub (.var 1) (.var 2)) .nil))) .nil)))) (t := 2) (it := .ex (.var 1)) (P := fun _ => True) (it_dct rfl hc' rd' hl) hl fun p hp => by
        have hs : List.set (wipeS [2] [c, c', .no]) 2 (.val (.str p.1)) = [c, c', .val (.str p.1)] := rfl
        have q := alike_ok hB m k p.2 (.val p.2) (.val p.2) (h p hp) (held_val _) (held_val _) (by omega)
        have lk := look_keys kk (k := p.1) (v := p.2) hp
        have h0 : has ks p.1 = true := by rw [has_look, lk]; rfl
        rw [hs, tf_t trivial]
        simp only [x_str, x_int, x_var, x_bin, x_cmp, x_bl, x_sub, x_slc, x_call, x_tup, x_lst, x_dct, x_and, x_or, x_not, x_isi, x_bfn, xs_nil, xs_cons, bind_ok, d_val, d_own, d_bor, c_eqi, c_eqs, c_lt, c_le, c_gt, c_ge, bl_val, cell_val, cell_own, cell_lent, cell_bor, vas_nil, vas_cons, va_val, va_own, b_add, b_sub, and_nil, or_nil, q_and, q_or, q_at, q_af, q_ot, q_of, c_ind, c_nind, pu_nil, mg_nil, q_an, q_on, c_nes, c_neb, c_eqb, Bool.not_true, Bool.not_false, q_cons, q_nx, q_ret, q_if, q_tt, q_ff, ss_nil, ss_frz, s_asg, s_ret, out_ok, give_val, give_own, fin_ret, fin_nx, ret_val, ret_own, frz_own, frz_val, frz_bor, List.getD_cons_zero, List.getD_cons_succ, startE, List.map_cons, List.map_nil, List.length_cons, List.length_nil, List.replicate, List.cons_append, List.nil_append, List.getElem?_cons_zero, List.getElem?_cons_succ, List.set_cons_zero, List.set_cons_succ, Nat.reduceSub, Nat.reduceAdd, decide_true, decide_false, Int.reduceAdd, Int.reduceSub, beq_self_eq_true, Bool.false_eq_true, if_false, if_true, hc, rd, hc', rd', h0, sub_dct lk, q]
      have f3 : tf (∀ p, p ∈ ks → True) = true := tf_t fun _ _ => trivial
      rw [f3] at f2
      simp only [f_law_alike, x_str, x_int, x_var, x_bin, x_cmp, x_bl, x_sub, x_slc, x_call, x_tup, x_lst, x_dct, x_and, x_or, x_not, x_isi, x_bfn, xs_nil, xs_cons, bind_ok, d_val, d_own, d_bor, c_eqi, c_eqs, c_lt, c_le, c_gt, c_ge, bl_val, cell_val, cell_own, cell_lent, cell_bor, vas_nil, vas_cons, va_val, va_own, b_add, b_sub, and_nil, or_nil, q_and, q_or, q_at, q_af, q_ot, q_of, c_ind, c_nind, pu_nil, mg_nil, q_an, q_on, c_nes, c_neb, c_eqb, Bool.not_true, Bool.not_false, q_cons, q_nx, q_ret, q_if, q_tt, q_ff, ss_nil, ss_frz, s_asg, s_ret, out_ok, give_val, give_own, fin_ret, fin_nx, ret_val, ret_own, frz_own, frz_val, frz_bor, List.getD_cons_zero, List.getD_cons_succ, startE, List.map_cons, List.map_nil, List.length_cons, List.length_nil, List.replicate, List.cons_append, List.nil_append, List.getElem?_cons_zero, List.getElem?_cons_succ, List.set_cons_zero, List.set_cons_succ, Nat.reduceSub, Nat.reduceAdd, decide_true, decide_false, Int.reduceAdd, Int.reduceSub, beq_self_eq_true, Bool.false_eq_true, if_false, if_true, hc, rd, hc', rd', t1, t2, t3, t4, len_dct hl, ne_ii, f1, f2]
/-- a name that is told, unlike zzzz -/
structure Nz (t : Str) : Prop where
  nm : NmOk t
  nz : t.length ≠ 4
theorem over_len8 {i : Int} (h0 : 0 ≤ i) (h1 : i < 8) {c : Nat} : (cutS "overmany" none (some i) ++ ⟨#[c]⟩ ++ cutS "overmany" (some (i + 1)) none).length = 8 := by
  have e : (cutS "overmany" none (some i)).length + (cutS "overmany" (some (i + 1)) none).length = 7 := by
    have hi : i = 0 ∨ i = 1 ∨ i = 2 ∨ i = 3 ∨ i = 4 ∨ i = 5 ∨ i = 6 ∨ i = 7 := by omega
    rcases hi with e | e | e | e | e | e | e | e <;> (rw [e]; decide +kernel)
  rw [app_len, app_len, one_len]
  omega
theorem small_n {j : Int} (h0 : 0 ≤ j) (h1 : j < 1000) : smallI j = true :=
  small_c (Int.lt_of_lt_of_le (show -(2 ^ 64) < (0 : Int) by decide) h0) (Int.lt_trans h1 (show (1000 : Int) < 2 ^ 64 by decide))
/-- which of the small ones are records, or choices -/
theorem of_ok {n : Nat} {K : List (Str × D)} {sm : List Str} {rk rs : RV} (hk : Held rk (.dct K)) (hs : Held rs (.lst (sm.map D.str))) (hl : sm.length ≤ lim) (h : ∀ x, x ∈ sm → ∃ v, look K x = some v) (B m : Nat) (hv : ∀ x v, look K x = some v → VV B m v) :
    (∃ l : List Str, callN tab (n + 1) 14 [rk, rs, .val (.str "record")] = .ok (.own (.lst (l.map D.str))) ∧ l.length ≤ lim ∧ ∀ x, x ∈ l → ∃ ks, look K x = some (.dct ks)) ∧
    (∃ l : List Str, callN tab (n + 1) 14 [rk, rs, .val (.str "choice")] = .ok (.own (.lst (l.map D.str))) ∧ l.length ≤ lim ∧ ∀ x, x ∈ l → ∃ s v, look K x = some (.tup [.str s, v])) := by
  obtain ⟨c, hc, rd, ec⟩ := hk
  obtain ⟨c', hc', rd', ec'⟩ := hs
  have e0 : ∀ w, startE f_law_of.N.length [rk, rs, .val w] = [c, c', .val w, .no] := fun w => by rw [← ec, ← ec']; rfl
  have hl2 : (sm.map D.str).length ≤ lim := by rw [List.length_map]; exact hl
  have go : ∀ (w : D) (ty : Ty), ∃ l : List Str, evX (callN tab n) tab.sub [c, c', .val w, .no] (.comp (.var 3) [3] (.ex (.var 1)) (.isi (.sub (.var 0) (.var 3)) [ty])) = .ok (.own (.lst (l.map D.str))) ∧ l.length ≤ lim ∧ ∀ x, x ∈ l → ∃ v, look K x = some v ∧ ([ty].any v.isTy) = true := fun w ty => by
    rw [x_comp, it_lst rfl hc' rd' hl2, bind_ok, if_pos hl2]
    obtain ⟨l, q1, q2, q3⟩ := comp_keep (its := sm) (P := fun x => ∃ v, look K x = some v ∧ ([ty].any v.isTy) = true) (one := fun d => ((setT [3] d (wipeS [3] [c, c', .val w, .no])).bind fun e' =>
        ((evX (callN tab n) tab.sub e' (.isi (.sub (.var 0) (.var 3)) [ty])).bind asBl).bind fun b => if b = true then (evX (callN tab n) tab.sub e' (.var 3)).bind fun y => (asVal y).bind fun d => .ok (some d) else .ok none).noX) (fun x hx => by
      obtain ⟨v, hv⟩ := h x hx
      have hs : List.set (wipeS [3] [c, c', .val w, .no]) 3 (.val (.str x)) = [c, c', .val w, .val (.str x)] := rfl
      rw [set_one, bind_ok, hs]
      cases q : [ty].any v.isTy with
      | true =>
        refine .inl ⟨?_, v, hv, q⟩
        simp only [x_str, x_int, x_var, x_bin, x_cmp, x_bl, x_sub, x_slc, x_call, x_tup, x_lst, x_dct, x_and, x_or, x_not, x_isi, x_bfn, xs_nil, xs_cons, bind_ok, d_val, d_own, d_bor, c_eqi, c_eqs, c_lt, c_le, c_gt, c_ge, bl_val, cell_val, cell_own, cell_lent, cell_bor, vas_nil, vas_cons, va_val, va_own, b_add, b_sub, and_nil, or_nil, q_and, q_or, q_at, q_af, q_ot, q_of, c_ind, c_nind, pu_nil, mg_nil, q_an, q_on, c_nes, c_neb, c_eqb, Bool.not_true, Bool.not_false, q_cons, q_nx, q_ret, q_if, q_tt, q_ff, ss_nil, ss_frz, s_asg, s_ret, out_ok, give_val, give_own, fin_ret, fin_nx, ret_val, ret_own, frz_own, frz_val, frz_bor, List.getD_cons_zero, List.getD_cons_succ, startE, List.map_cons, List.map_nil, List.length_cons, List.length_nil, List.replicate, List.cons_append, List.nil_append, List.getElem?_cons_zero, List.getElem?_cons_succ, List.set_cons_zero, List.set_cons_succ, Nat.reduceSub, Nat.reduceAdd, decide_true, decide_false, Int.reduceAdd, Int.reduceSub, beq_self_eq_true, Bool.false_eq_true, if_false, if_true, hc, rd, sub_dct hv, q, noX_ok]
      | false =>
        refine .inr ?_
        simp only [x_str, x_int, x_var, x_bin, x_cmp, x_bl, x_sub, x_slc, x_call, x_tup, x_lst, x_dct, x_and, x_or, x_not, x_isi, x_bfn, xs_nil, xs_cons, bind_ok, d_val, d_own, d_bor, c_eqi, c_eqs, c_lt, c_le, c_gt, c_ge, bl_val, cell_val, cell_own, cell_lent, cell_bor, vas_nil, vas_cons, va_val, va_own, b_add, b_sub, and_nil, or_nil, q_and, q_or, q_at, q_af, q_ot, q_of, c_ind, c_nind, pu_nil, mg_nil, q_an, q_on, c_nes, c_neb, c_eqb, Bool.not_true, Bool.not_false, q_cons, q_nx, q_ret, q_if, q_tt, q_ff, ss_nil, ss_frz, s_asg, s_ret, out_ok, give_val, give_own, fin_ret, fin_nx, ret_val, ret_own, frz_own, frz_val, frz_bor, List.getD_cons_zero, List.getD_cons_succ, startE, List.map_cons, List.map_nil, List.length_cons, List.length_nil, List.replicate, List.cons_append, List.nil_append, List.getElem?_cons_zero, List.getElem?_cons_succ, List.set_cons_zero, List.set_cons_succ, Nat.reduceSub, Nat.reduceAdd, decide_true, decide_false, Int.reduceAdd, Int.reduceSub, beq_self_eq_true, Bool.false_eq_true, if_false, if_true, hc, rd, sub_dct hv, q, noX_ok])
    rw [q1]
    exact ⟨l, rfl, by omega, fun x hx => (q2 x hx).2⟩
  constructor
  · obtain ⟨l, q1, q2, q3⟩ := go (.str "record") .dict
    refine ⟨l, ?_, q2, fun x hx => ?_⟩
    · rw [call_fin tab n 14 f_law_of _ rfl rfl, e0]
      simp only [f_law_of, x_str, x_int, x_var, x_bin, x_cmp, x_bl, x_sub, x_slc, x_call, x_tup, x_lst, x_dct, x_and, x_or, x_not, x_isi, x_bfn, xs_nil, xs_cons, bind_ok, d_val, d_own, d_bor, c_eqi, c_eqs, c_lt, c_le, c_gt, c_ge, bl_val, cell_val, cell_own, cell_lent, cell_bor, vas_nil, vas_cons, va_val, va_own, b_add, b_sub, and_nil, or_nil, q_and, q_or, q_at, q_af, q_ot, q_of, c_ind, c_nind, pu_nil, mg_nil, q_an, q_on, c_nes, c_neb, c_eqb, Bool.not_true, Bool.not_false, q_cons, q_nx, q_ret, q_if, q_tt, q_ff, ss_nil, ss_frz, s_asg, s_ret, out_ok, give_val, give_own, fin_ret, fin_nx, ret_val, ret_own, frz_own, frz_val, frz_bor, List.getD_cons_zero, List.getD_cons_succ, startE, List.map_cons, List.map_nil, List.length_cons, List.length_nil, List.replicate, List.cons_append, List.nil_append, List.getElem?_cons_zero, List.getElem?_cons_succ, List.set_cons_zero, List.set_cons_succ, Nat.reduceSub, Nat.reduceAdd, decide_true, decide_false, Int.reduceAdd, Int.reduceSub, beq_self_eq_true, Bool.false_eq_true, if_false, if_true, lit_rr, q1]
    · obtain ⟨v, e1, e2⟩ := q3 x hx
      cases v <;> first
        | exact ⟨_, e1⟩
        | cases e2
  · obtain ⟨l, q1, q2, q3⟩ := go (.str "choice") .tuple
    refine ⟨l, ?_, q2, fun x hx => ?_⟩
    · rw [call_fin tab n 14 f_law_of _ rfl rfl, e0]
      simp only [f_law_of, x_str, x_int, x_var, x_bin, x_cmp, x_bl, x_sub, x_slc, x_call, x_tup, x_lst, x_dct, x_and, x_or, x_not, x_isi, x_bfn, xs_nil, xs_cons, bind_ok, d_val, d_own, d_bor, c_eqi, c_eqs, c_lt, c_le, c_gt, c_ge, bl_val, cell_val, cell_own, cell_lent, cell_bor, vas_nil, vas_cons, va_val, va_own, b_add, b_sub, and_nil, or_nil, q_and, q_or, q_at, q_af, q_ot, q_of, c_ind, c_nind, pu_nil, mg_nil, q_an, q_on, c_nes, c_neb, c_eqb, Bool.not_true, Bool.not_false, q_cons, q_nx, q_ret, q_if, q_tt, q_ff, ss_nil, ss_frz, s_asg, s_ret, out_ok, give_val, give_own, fin_ret, fin_nx, ret_val, ret_own, frz_own, frz_val, frz_bor, List.getD_cons_zero, List.getD_cons_succ, startE, List.map_cons, List.map_nil, List.length_cons, List.length_nil, List.replicate, List.cons_append, List.nil_append, List.getElem?_cons_zero, List.getElem?_cons_succ, List.set_cons_zero, List.set_cons_succ, Nat.reduceSub, Nat.reduceAdd, decide_true, decide_false, Int.reduceAdd, Int.reduceSub, beq_self_eq_true, Bool.false_eq_true, if_false, if_true, lit_cr, q1]
    · obtain ⟨v, e1, e2⟩ := q3 x hx
      have z := hv x v e1
      cases v <;> first
        | cases e2
        | skip
      obtain ⟨s, v, e⟩ := z.tup_form
      exact ⟨s, v, by rw [e1, e]⟩
end K05
set_option Elab.async false
set_option linter.all false
set_option maxRecDepth 100000
set_option maxHeartbeats 4000000
set_option autoImplicit false
namespace K05
open PySem Ev L2
section
variable {call : Nat → List RV → Rs RV} {sub : Sub}
theorem st1 {s : Int} {al : Str} {xs : List D} {i : Int} : evX call sub [.val (.int s), .val (.str al), .own (.lst xs), .val (.int i), .no] (.bin .fdiv (.var 0) (.cint 3)) = .ok (.val (.int (s.fdiv 3))) := by
  have b4 := fun (i : Int) => b_fdiv (i := i) (j := 3) ⟨by decide, by decide⟩
  simp only [x_str, x_int, x_var, x_bin, x_cmp, x_bl, x_sub, x_slc, x_call, x_tup, x_lst, x_dct, x_and, x_or, x_not, x_isi, x_bfn, xs_nil, xs_cons, bind_ok, d_val, d_own, d_bor, c_eqi, c_eqs, c_lt, c_le, c_gt, c_ge, bl_val, cell_val, cell_own, cell_lent, cell_bor, vas_nil, vas_cons, va_val, va_own, b_add, b_sub, and_nil, or_nil, q_and, q_or, q_at, q_af, q_ot, q_of, c_ind, c_nind, pu_nil, mg_nil, q_an, q_on, c_nes, c_neb, c_eqb, Bool.not_true, Bool.not_false, q_cons, q_nx, q_ret, q_if, q_tt, q_ff, ss_nil, ss_frz, s_asg, s_ret, out_ok, give_val, give_own, fin_ret, fin_nx, ret_val, ret_own, frz_own, frz_val, frz_bor, List.getD_cons_zero, List.getD_cons_succ, startE, List.map_cons, List.map_nil, List.length_cons, List.length_nil, List.replicate, List.cons_append, List.nil_append, List.getElem?_cons_zero, List.getElem?_cons_succ, List.set_cons_zero, List.set_cons_succ, Nat.reduceSub, Nat.reduceAdd, decide_true, decide_false, Int.reduceAdd, Int.reduceSub, beq_self_eq_true, Bool.false_eq_true, if_false, if_true, b4]
theorem st2 {s w1 : Int} {al : Str} {xs : List D} {i : Int} (mu : binop .mul (.int i) (.int (1 + (s.fdiv 78).fmod 25)) = .ok (.val (.int w1))) : evX call sub [.val (.int s), .val (.str al), .own (.lst xs), .val (.int i), .no] (.bin .mul (.var 3) (.bin .add (.cint 1) (.bin .mod (.bin .fdiv (.var 0) (.cint 78)) (.cint 25)))) = .ok (.val (.int w1)) := by
  have b5 := fun (i : Int) => b_fdiv (i := i) (j := 78) ⟨by decide, by decide⟩
  have m25 := fun (i : Int) => b_mod (i := i) (j := 25) (by decide)
  simp only [x_str, x_int, x_var, x_bin, x_cmp, x_bl, x_sub, x_slc, x_call, x_tup, x_lst, x_dct, x_and, x_or, x_not, x_isi, x_bfn, xs_nil, xs_cons, bind_ok, d_val, d_own, d_bor, c_eqi, c_eqs, c_lt, c_le, c_gt, c_ge, bl_val, cell_val, cell_own, cell_lent, cell_bor, vas_nil, vas_cons, va_val, va_own, b_add, b_sub, and_nil, or_nil, q_and, q_or, q_at, q_af, q_ot, q_of, c_ind, c_nind, pu_nil, mg_nil, q_an, q_on, c_nes, c_neb, c_eqb, Bool.not_true, Bool.not_false, q_cons, q_nx, q_ret, q_if, q_tt, q_ff, ss_nil, ss_frz, s_asg, s_ret, out_ok, give_val, give_own, fin_ret, fin_nx, ret_val, ret_own, frz_own, frz_val, frz_bor, List.getD_cons_zero, List.getD_cons_succ, startE, List.map_cons, List.map_nil, List.length_cons, List.length_nil, List.replicate, List.cons_append, List.nil_append, List.getElem?_cons_zero, List.getElem?_cons_succ, List.set_cons_zero, List.set_cons_succ, Nat.reduceSub, Nat.reduceAdd, decide_true, decide_false, Int.reduceAdd, Int.reduceSub, beq_self_eq_true, Bool.false_eq_true, if_false, if_true, b5, m25, mu]
theorem st3 {s w1 : Int} {al : Str} {xs : List D} {i : Int} {c2 : Nat} (mu : binop .mul (.int i) (.int (1 + (s.fdiv 78).fmod 25)) = .ok (.val (.int w1))) (e2 : subop (.str al) (.int ((s.fdiv 3 + w1).fmod 26)) = .ok (.val (.str ⟨#[c2]⟩))) : evX call sub [.val (.int s), .val (.str al), .own (.lst xs), .val (.int i), .no] (.sub (.var 1) (.bin .mod (.bin .add (.bin .fdiv (.var 0) (.cint 3)) (.bin .mul (.var 3) (.bin .add (.cint 1) (.bin .mod (.bin .fdiv (.var 0) (.cint 78)) (.cint 25))))) (.cint 26))) = .ok (.val (.str ⟨#[c2]⟩)) := by
  have m26 := fun (i : Int) => b_mod (i := i) (j := 26) (by decide)
  rw [x_sub, x_bin, x_bin, st1, st2 mu]
  simp only [x_str, x_int, x_var, x_bin, x_cmp, x_bl, x_sub, x_slc, x_call, x_tup, x_lst, x_dct, x_and, x_or, x_not, x_isi, x_bfn, xs_nil, xs_cons, bind_ok, d_val, d_own, d_bor, c_eqi, c_eqs, c_lt, c_le, c_gt, c_ge, bl_val, cell_val, cell_own, cell_lent, cell_bor, vas_nil, vas_cons, va_val, va_own, b_add, b_sub, and_nil, or_nil, q_and, q_or, q_at, q_af, q_ot, q_of, c_ind, c_nind, pu_nil, mg_nil, q_an, q_on, c_nes, c_neb, c_eqb, Bool.not_true, Bool.not_false, q_cons, q_nx, q_ret, q_if, q_tt, q_ff, ss_nil, ss_frz, s_asg, s_ret, out_ok, give_val, give_own, fin_ret, fin_nx, ret_val, ret_own, frz_own, frz_val, frz_bor, List.getD_cons_zero, List.getD_cons_succ, startE, List.map_cons, List.map_nil, List.length_cons, List.length_nil, List.replicate, List.cons_append, List.nil_append, List.getElem?_cons_zero, List.getElem?_cons_succ, List.set_cons_zero, List.set_cons_succ, Nat.reduceSub, Nat.reduceAdd, decide_true, decide_false, Int.reduceAdd, Int.reduceSub, beq_self_eq_true, Bool.false_eq_true, if_false, if_true, m26, e2]
theorem st4 {s : Int} {al : Str} {xs : List D} {i : Int} {c2 : Nat} (hlt : xs.length < lim) (e : evX call sub [.val (.int s), .val (.str al), .own (.lst xs), .val (.int i), .no] (.sub (.var 1) (.bin .mod (.bin .add (.bin .fdiv (.var 0) (.cint 3)) (.bin .mul (.var 3) (.bin .add (.cint 1) (.bin .mod (.bin .fdiv (.var 0) (.cint 78)) (.cint 25))))) (.cint 26))) = .ok (.val (.str ⟨#[c2]⟩))) : evSs call sub [.val (.int s), .val (.str al), .own (.lst xs), .val (.int i), .no] b_law_name_by_0 = .nx [.val (.int s), .val (.str al), .own (.lst (xs ++ [.str ⟨#[c2]⟩])), .val (.int i), .no] := by
  unfold b_law_name_by_0
  rw [q_cons, s_appO (xs := xs) rfl, e]
  show (runSs call sub (if xs.length < lim then Out.nx _ else Out.stuck) _) = _
  rw [if_pos hlt]
  simp only [q_cons, q_nx, q_ret, q_if, q_tt, q_ff, ss_nil, ss_frz, s_asg, s_ret, out_ok, give_val, give_own, fin_ret, fin_nx, ret_val, ret_own, frz_own, frz_val, frz_bor, List.getD_cons_zero, List.getD_cons_succ]
  rfl
end
theorem name5_t {n : Nat} (s : Int) (q : ((s.fdiv 5).fmod 4 == 0) = true) : ∃ t, callN tab (n + 1) 12 [.val (.int s)] = .ok (.val (.str t)) ∧ Nz t := by
  rw [call_fin tab n 12 f_law_name_by _ rfl rfl]
  obtain ⟨al, hal⟩ : ∃ al : Str, al = "abcdefghijklmnopqrstuvwxyz" := ⟨_, rfl⟩
  have ha : alphaB al = true := by rw [hal]; decide +kernel
  have b1 := fun (i : Int) => b_fdiv (i := i) (j := 5) ⟨by decide, by decide⟩
  have b2 := fun (i : Int) => b_fdiv (i := i) (j := 20) ⟨by decide, by decide⟩
  have b3 := fun (i : Int) => b_fdiv (i := i) (j := 160) ⟨by decide, by decide⟩
  have b4 := fun (i : Int) => b_fdiv (i := i) (j := 3) ⟨by decide, by decide⟩
  have b5 := fun (i : Int) => b_fdiv (i := i) (j := 78) ⟨by decide, by decide⟩
  have m4 := fun (i : Int) => b_mod (i := i) (j := 4) (by decide)
  have m8 := fun (i : Int) => b_mod (i := i) (j := 8) (by decide)
  have m26 := fun (i : Int) => b_mod (i := i) (j := 26) (by decide)
  have m3 := fun (i : Int) => b_mod (i := i) (j := 3) (by decide)
  have m25 := fun (i : Int) => b_mod (i := i) (j := 25) (by decide)
  have hlim : lim = 16777216 := rfl
  have e0 : startE f_law_name_by.N.length [.val (.int s)] = [.val (.int s), .no, .no, .no, .no] := rfl
  rw [e0]
  obtain ⟨c, e1, c1⟩ := letterA ha (s.fdiv 160)
  obtain ⟨r0, r1⟩ := fmod_range (a := s.fdiv 20) (m := 8) (by decide)
  have nm := over_nm r0 r1 c1
  have sl : ∀ lo hi : Option Int, slcop (.str "overmany") lo hi = .ok (.val (.str (cutS "overmany" lo hi))) := fun lo hi => slc_str (by decide +kernel)
  have bd : ∀ i : Int, bound (.val (.int i)) = .ok (some i) := fun _ => rfl
  have n1 : isNone .cnon = true := rfl
  have n2 : ¬ isNone (.var 4) = true := fun h => by cases h
  have n3 : ∀ a b, ¬ isNone (.bin .add a b) = true := fun _ _ h => by cases h
  have l1 := cutS_le "overmany" none (some ((s.fdiv 20).fmod 8))
  have l2 := cutS_le "overmany" (some ((s.fdiv 20).fmod 8 + 1)) none
  have l0 : ("overmany" : Str).length = 8 := rfl
  have g1 := b_str (x := cutS "overmany" none (some ((s.fdiv 20).fmod 8))) (y := ⟨#[c]⟩) (by rw [one_len]; omega)
  have g2 := b_str (x := cutS "overmany" none (some ((s.fdiv 20).fmod 8)) ++ ⟨#[c]⟩) (y := cutS "overmany" (some ((s.fdiv 20).fmod 8 + 1)) none) (by rw [app_len, one_len]; omega)
  refine ⟨_, ?_, nm, by rw [over_len8 r0 r1]; decide⟩
  simp only [f_law_name_by, ← hal, x_str, x_int, x_var, x_bin, x_cmp, x_bl, x_sub, x_slc, x_call, x_tup, x_lst, x_dct, x_and, x_or, x_not, x_isi, x_bfn, xs_nil, xs_cons, bind_ok, d_val, d_own, d_bor, c_eqi, c_eqs, c_lt, c_le, c_gt, c_ge, bl_val, cell_val, cell_own, cell_lent, cell_bor, vas_nil, vas_cons, va_val, va_own, b_add, b_sub, and_nil, or_nil, q_and, q_or, q_at, q_af, q_ot, q_of, c_ind, c_nind, pu_nil, mg_nil, q_an, q_on, c_nes, c_neb, c_eqb, Bool.not_true, Bool.not_false, q_cons, q_nx, q_ret, q_if, q_tt, q_ff, ss_nil, ss_frz, s_asg, s_ret, out_ok, give_val, give_own, fin_ret, fin_nx, ret_val, ret_own, frz_own, frz_val, frz_bor, List.getD_cons_zero, List.getD_cons_succ, startE, List.map_cons, List.map_nil, List.length_cons, List.length_nil, List.replicate, List.cons_append, List.nil_append, List.getElem?_cons_zero, List.getElem?_cons_succ, List.set_cons_zero, List.set_cons_succ, Nat.reduceSub, Nat.reduceAdd, decide_true, decide_false, Int.reduceAdd, Int.reduceSub, beq_self_eq_true, Bool.false_eq_true, if_false, if_true, b1, b2, b3, m4, m8, m26, q, e1, sl, n1, n2, n3, if_pos, if_neg, bd, g1, g2]
theorem name5_f {n : Nat} (s : Int) (q : ((s.fdiv 5).fmod 4 == 0) = false) : ∃ t, callN tab (n + 1) 12 [.val (.int s)] = .ok (.val (.str t)) ∧ Nz t := by
  rw [call_fin tab n 12 f_law_name_by _ rfl rfl]
  obtain ⟨al, hal⟩ : ∃ al : Str, al = "abcdefghijklmnopqrstuvwxyz" := ⟨_, rfl⟩
  have ha : alphaB al = true := by rw [hal]; decide +kernel
  have b1 := fun (i : Int) => b_fdiv (i := i) (j := 5) ⟨by decide, by decide⟩
  have b2 := fun (i : Int) => b_fdiv (i := i) (j := 20) ⟨by decide, by decide⟩
  have b3 := fun (i : Int) => b_fdiv (i := i) (j := 160) ⟨by decide, by decide⟩
  have b4 := fun (i : Int) => b_fdiv (i := i) (j := 3) ⟨by decide, by decide⟩
  have b5 := fun (i : Int) => b_fdiv (i := i) (j := 78) ⟨by decide, by decide⟩
  have m4 := fun (i : Int) => b_mod (i := i) (j := 4) (by decide)
  have m8 := fun (i : Int) => b_mod (i := i) (j := 8) (by decide)
  have m26 := fun (i : Int) => b_mod (i := i) (j := 26) (by decide)
  have m3 := fun (i : Int) => b_mod (i := i) (j := 3) (by decide)
  have m25 := fun (i : Int) => b_mod (i := i) (j := 25) (by decide)
  have hlim : lim = 16777216 := rfl
  have e0 : startE f_law_name_by.N.length [.val (.int s)] = [.val (.int s), .no, .no, .no, .no] := rfl
  rw [e0]
  obtain ⟨z, hz0⟩ : ∃ z : Int, z = 1 + s.fmod 3 := ⟨_, rfl⟩
  have z12 : 1 ≤ z ∧ z ≤ 3 := by
    obtain ⟨z1, z2⟩ := fmod_range (a := s) (m := 3) (by decide)
    omega
  obtain ⟨z1, z2⟩ := z12
  have hz : (lim : Int) = 16777216 := rfl
  have ez : evSs (callN tab n) tab.sub [.val (.int s), .no, .no, .no, .no] f_law_name_by.body = runSs (callN tab n) tab.sub (evS (callN tab n) tab.sub [.val (.int s), .val (.str al), .own (.lst []), .no, .no] (.forr [3] (.range (.bin .add (.cint 1) (.bin .mod (.var 0) (.cint 3)))) b_law_name_by_0)) r_law_name_by_0 := by
    simp only [f_law_name_by, ← hal, x_str, x_int, x_var, x_bin, x_cmp, x_bl, x_sub, x_slc, x_call, x_tup, x_lst, x_dct, x_and, x_or, x_not, x_isi, x_bfn, xs_nil, xs_cons, bind_ok, d_val, d_own, d_bor, c_eqi, c_eqs, c_lt, c_le, c_gt, c_ge, bl_val, cell_val, cell_own, cell_lent, cell_bor, vas_nil, vas_cons, va_val, va_own, b_add, b_sub, and_nil, or_nil, q_and, q_or, q_at, q_af, q_ot, q_of, c_ind, c_nind, pu_nil, mg_nil, q_an, q_on, c_nes, c_neb, c_eqb, Bool.not_true, Bool.not_false, q_cons, q_nx, q_ret, q_if, q_tt, q_ff, ss_nil, ss_frz, s_asg, s_ret, out_ok, give_val, give_own, fin_ret, fin_nx, ret_val, ret_own, frz_own, frz_val, frz_bor, List.getD_cons_zero, List.getD_cons_succ, startE, List.map_cons, List.map_nil, List.length_cons, List.length_nil, List.replicate, List.cons_append, List.nil_append, List.getElem?_cons_zero, List.getElem?_cons_succ, List.set_cons_zero, List.set_cons_succ, Nat.reduceSub, Nat.reduceAdd, decide_true, decide_false, Int.reduceAdd, Int.reduceSub, beq_self_eq_true, Bool.false_eq_true, if_false, if_true, b1, m4, q]
  rw [ez]
  have it1 : evIt (callN tab n) tab.sub [.val (.int s), .val (.str al), .own (.lst []), .no, .no] (.range (.bin .add (.cint 1) (.bin .mod (.var 0) (.cint 3)))) = .ok ((List.range z.toNat).map fun (i : Nat) => D.int i) := by
    rw [i_range]
    simp only [x_str, x_int, x_var, x_bin, x_cmp, x_bl, x_sub, x_slc, x_call, x_tup, x_lst, x_dct, x_and, x_or, x_not, x_isi, x_bfn, xs_nil, xs_cons, bind_ok, d_val, d_own, d_bor, c_eqi, c_eqs, c_lt, c_le, c_gt, c_ge, bl_val, cell_val, cell_own, cell_lent, cell_bor, vas_nil, vas_cons, va_val, va_own, b_add, b_sub, and_nil, or_nil, q_and, q_or, q_at, q_af, q_ot, q_of, c_ind, c_nind, pu_nil, mg_nil, q_an, q_on, c_nes, c_neb, c_eqb, Bool.not_true, Bool.not_false, q_cons, q_nx, q_ret, q_if, q_tt, q_ff, ss_nil, ss_frz, s_asg, s_ret, out_ok, give_val, give_own, fin_ret, fin_nx, ret_val, ret_own, frz_own, frz_val, frz_bor, List.getD_cons_zero, List.getD_cons_succ, startE, List.map_cons, List.map_nil, List.length_cons, List.length_nil, List.replicate, List.cons_append, List.nil_append, List.getElem?_cons_zero, List.getElem?_cons_succ, List.set_cons_zero, List.set_cons_succ, Nat.reduceSub, Nat.reduceAdd, decide_true, decide_false, Int.reduceAdd, Int.reduceSub, beq_self_eq_true, Bool.false_eq_true, if_false, if_true, m3, ← hz0]
    exact r_of (by omega) (by omega)
  obtain ⟨e', k1, k2⟩ := for_inv (tg := [3]) (b := b_law_name_by_0) it1 (fun i e => ∃ (xs : List D) (c : Cel), e = [.val (.int s), .val (.str al), .own (.lst xs), c, .no] ∧ xs.length = i ∧ ∀ x, x ∈ xs → ∃ c : Nat, x = .str ⟨#[c]⟩ ∧ 97 ≤ c ∧ c ≤ 122)
    ⟨[], .no, rfl, rfl, fun x h => by cases h⟩ (fun i d e1 hd ⟨xs, c, e0, hl, hx⟩ => by
      obtain ⟨ed, hi⟩ := get_range hd
      subst ed e0
      obtain ⟨y1, y2⟩ := fmod_range (a := s.fdiv 78) (m := 25) (by decide)
      obtain ⟨w1, mu⟩ : ∃ w1, binop .mul (.int (i : Int)) (.int (1 + (s.fdiv 78).fmod 25)) = .ok (.val (.int w1)) := ⟨_, b_mul (small_n (by omega) (by omega))⟩
      obtain ⟨c2, e2, c3⟩ := letterA ha (s.fdiv 3 + w1)
      refine ⟨_, _, set_one, ?_, xs ++ [.str ⟨#[c2]⟩], .val (.int i), rfl, by rw [List.length_append, hl]; rfl, fun x h => ?_⟩
      · have hlt : xs.length < lim := by rw [hl]; omega
        exact st4 hlt (st3 mu e2)
      · rcases List.mem_append.mp h with h | h
        · exact hx x h
        · have e3 : x = .str ⟨#[c2]⟩ := by simpa using h
          exact ⟨_, e3, c3⟩)
  obtain ⟨xs, c, e0, hl, hx⟩ := k2
  subst e0
  rw [List.length_map, List.length_range] at hl
  obtain ⟨t, j1, j2, j3⟩ := join_low hx (by omega)
  have k1 : evS (callN tab n) tab.sub [.val (.int s), .val (.str al), .own (.lst []), .no, .no] (.forr [3] (.range (.bin .add (.cint 1) (.bin .mod (.var 0) (.cint 3)))) b_law_name_by_0) = .nx [.val (.int s), .val (.str al), .own (.lst xs), c, .no] := k1
  rw [k1, q_nx]
  have jo : mthOk .join (.str "") = true := rfl
  refine ⟨t, ?_, ⟨by omega, by omega, j3⟩, by omega⟩
  simp only [r_law_name_by_0, x_str, x_int, x_var, x_bin, x_cmp, x_bl, x_sub, x_slc, x_call, x_tup, x_lst, x_dct, x_and, x_or, x_not, x_isi, x_bfn, xs_nil, xs_cons, bind_ok, d_val, d_own, d_bor, c_eqi, c_eqs, c_lt, c_le, c_gt, c_ge, bl_val, cell_val, cell_own, cell_lent, cell_bor, vas_nil, vas_cons, va_val, va_own, b_add, b_sub, and_nil, or_nil, q_and, q_or, q_at, q_af, q_ot, q_of, c_ind, c_nind, pu_nil, mg_nil, q_an, q_on, c_nes, c_neb, c_eqb, Bool.not_true, Bool.not_false, q_cons, q_nx, q_ret, q_if, q_tt, q_ff, ss_nil, ss_frz, s_asg, s_ret, out_ok, give_val, give_own, fin_ret, fin_nx, ret_val, ret_own, frz_own, frz_val, frz_bor, List.getD_cons_zero, List.getD_cons_succ, startE, List.map_cons, List.map_nil, List.length_cons, List.length_nil, List.replicate, List.cons_append, List.nil_append, List.getElem?_cons_zero, List.getElem?_cons_succ, List.set_cons_zero, List.set_cons_succ, Nat.reduceSub, Nat.reduceAdd, decide_true, decide_false, Int.reduceAdd, Int.reduceSub, beq_self_eq_true, Bool.false_eq_true, if_false, if_true, x_mth, if_pos jo, mthArg, j1]
theorem name5_ok {n : Nat} (s : Int) : ∃ t, callN tab (n + 1) 12 [.val (.int s)] = .ok (.val (.str t)) ∧ Nz t := by
  cases q : ((s.fdiv 5).fmod 4 == 0) with
  | true => exact name5_t s q
  | false => exact name5_f s q
end K05
set_option Elab.async false
set_option linter.all false
set_option maxRecDepth 100000
set_option maxHeartbeats 4000000
set_option autoImplicit false
namespace K05
open PySem Ev L2
theorem rkt : RkT tab 0 1 2 3 4 5 6 7 8 9 10 := ⟨rfl, rfl, rfl, rfl, rfl, rfl, rfl, rfl, rfl, rfl, rfl⟩
theorem merge_go : ∀ (l acc : List (Str × D)), Keys (acc ++ l) → merge acc l = acc ++ l
  | [], acc, _ => (List.append_nil acc).symm
  | (k, v) :: r, acc, h => by
    have h0 : has acc k = false := by
      cases q : has acc k with
      | false => rfl
      | true =>
        obtain ⟨p, hp, e⟩ := List.mem_map.mp (has_iff.mp q)
        unfold Keys at h
        rw [List.map_append, List.nodup_append] at h
        exact (h.2.2 k (List.mem_map.mpr ⟨p, hp, e⟩) k (by rw [List.map_cons]; exact List.mem_cons_self) rfl).elim
    have e : put acc k v = acc ++ [(k, v)] := by
      unfold put
      rw [h0]
      rfl
    show merge (put acc k v) r = _
    rw [e, merge_go r (acc ++ [(k, v)]) (by rw [List.append_assoc]; exact h), List.append_assoc]
    rfl
theorem merge_keys {l : List (Str × D)} (h : Keys l) : merge [] l = l := merge_go l [] h
theorem pick_str {l : List Str} (hne : l ≠ []) (i : Int) : ∃ x, x ∈ l ∧ subop (.lst (l.map D.str)) (.int (i.fmod l.length)) = .ok (.val (.str x)) := by
  have hp : (0 : Int) < l.length := by
    cases l with
    | nil => exact absurd rfl hne
    | cons p r => simp only [List.length_cons]; omega
  obtain ⟨h0, h1⟩ := fmod_range (a := i) hp
  obtain ⟨x, e1, e2, _⟩ := atI_some (l := l.map D.str) h0 (by rw [List.length_map]; exact h1)
  obtain ⟨y, hy, e⟩ := List.mem_map.mp e2
  exact ⟨y, hy, by rw [sub_lst e1, e]⟩
theorem len_str {l : List Str} (h : l.length ≤ lim) : bfnop .len [.lst (l.map D.str)] = .ok (.val (.int l.length)) := by
  have z := len_lst (ks := l.map D.str) (by rw [List.length_map]; exact h)
  rw [List.length_map] at z
  exact z
theorem em_lst {l : List D} : cmpop .eq (.lst l) (.lst []) = .ok (.val (.bl l.isEmpty)) := by
  have h : eqOk (.lst l) (.lst []) = true := by
    unfold eqOk
    refine decide_eq_true ?_
    have z : (D.lst []).dep = 1 := rfl
    omega
  rw [c_eqd h]
  cases l <;> simp [D.eqv, D.eqvL]
theorem ne_emp {ks : List (Str × D)} : cmpop .ne (.dct ks) (.dct []) = .ok (.val (.bl (!ks.isEmpty))) := by
  have h : eqOk (.dct ks) (.dct []) = true := by
    unfold eqOk
    refine decide_eq_true ?_
    have z : (D.dct []).dep = 1 := rfl
    omega
  have e := eq_emp (fs := ks)
  rw [c_eqd h] at e
  have e2 : D.eqv (.dct ks) (.dct []) = ks.isEmpty := by
    injection e with e
    injection e with e
    injection e
  have z : cmpop .ne (.dct ks) (.dct []) = if eqOk (.dct ks) (.dct []) = true ∧ neOk (.dct ks) (.dct []) = true then .ok (.val (.bl (!D.eqv (.dct ks) (.dct [])))) else .stuck := rfl
  rw [z, if_pos ⟨h, by show (ks.isEmpty || true) = true; rw [Bool.or_true]⟩, e2]
theorem bkL_le {M : Nat} : ∀ {xs : List D}, (∀ d, d ∈ xs → bk d ≤ M) → bkL xs ≤ xs.length * (M + 1)
  | [], _ => by rw [bkL_nil]; omega
  | x :: r, h => by
    have z := bkL_le fun d hd => h d (List.mem_cons_of_mem _ hd)
    have y := h x List.mem_cons_self
    rw [bkL_cons, List.length_cons, Nat.add_mul]
    omega
def nmT (x : Str) : D := .tup [.str "name", .str x]
theorem shw_w {x : Str} (h : lowB x = true) : Shw 0 (.str x) := .str fun c hc => Nat.lt_of_le_of_lt (Low.lit h c hc).2 (by decide)
theorem shw2 {m : Nat} {a b : D} (ha : Shw m a) (hb : Shw m b) : Shw (m + 1) (.tup [a, b]) := (Shw.lst fun d hd => by
  simp only [List.mem_cons, List.not_mem_nil, or_false] at hd
  rcases hd with e | e <;> (rw [e]; assumption)).2
theorem shw3 {m : Nat} {a b c : D} (ha : Shw m a) (hb : Shw m b) (hc : Shw m c) : Shw (m + 1) (.tup [a, b, c]) := (Shw.lst fun d hd => by
  simp only [List.mem_cons, List.not_mem_nil, or_false] at hd
  rcases hd with e | e | e <;> (rw [e]; assumption)).2
theorem shw4 {m : Nat} {a b c f : D} (ha : Shw m a) (hb : Shw m b) (hc : Shw m c) (hf : Shw m f) : Shw (m + 1) (.tup [a, b, c, f]) := (Shw.lst fun d hd => by
  simp only [List.mem_cons, List.not_mem_nil, or_false] at hd
  rcases hd with e | e | e | e <;> (rw [e]; assumption)).2
theorem bk2 {a b : D} : bk (.tup [a, b]) = bk a + bk b + 2 := by rw [bk_tup, bkL_cons, bkL_cons, bkL_nil]; omega
theorem bk3 {a b c : D} : bk (.tup [a, b, c]) = bk a + bk b + bk c + 3 := by rw [bk_tup, bkL_cons, bkL_cons, bkL_cons, bkL_nil]; omega
theorem bk4 {a b c d : D} : bk (.tup [a, b, c, d]) = bk a + bk b + bk c + bk d + 4 := by rw [bk_tup, bkL_cons, bkL_cons, bkL_cons, bkL_cons, bkL_nil]; omega
theorem nm_bk {x : Str} (h : NmOk x) : bk (.str x) ≤ 12 := h.len
theorem w_bk {x : Str} (h : decide (x.length ≤ 12) = true) : bk (.str x) ≤ 12 := of_decide_eq_true h
theorem nmT_shw {x : Str} (h : NmOk x) : Shw 1 (nmT x) := shw2 (shw_w (by decide +kernel)) h.shw
theorem nmT_bk {x : Str} (h : NmOk x) : bk (nmT x) ≤ 26 := by
  unfold nmT
  rw [bk2]
  have a := nm_bk h
  have b := w_bk (x := "name") (by decide +kernel)
  omega
/-- a step: its tree, and what the tree comes to -/
def StepOk (B m : Nat) (K : List (Str × D)) (o : Rs RV) : Prop := ∃ t v, o = .ok (.own (.lst [t, v])) ∧ Rk tab 1 [] K t (.ok v) 6 ∧ VV (B + 1) (m + 1) v ∧ Shw 8 t ∧ bk t ≤ 4000
structure Stt (B m : Nat) (K : List (Str × D)) (sm : List Str) : Prop where
  len : K.length < lim
  vv : ∀ x v, look K x = some v → VV B m v
  nm : ∀ x v, look K x = some v → NmOk x
  ms : ∀ x, x ∈ sm → ∃ v, look K x = some v
  ne : sm ≠ []
  sl : sm.length ≤ lim
  lo : 60 ≤ B
  hi : B < 1000
section
variable {B m : Nat} {K : List (Str × D)} {sm : List Str} {rk rs : RV} {n : Nat}
/-- one of the small names -/
theorem Stt.pick (H : Stt B m K sm) (i : Int) : ∃ x v, subop (.lst (sm.map D.str)) (.int (i.fmod sm.length)) = .ok (.val (.str x)) ∧ look K x = some v ∧ NmOk x ∧ VV B m v := by
  obtain ⟨x, hx, e⟩ := pick_str H.ne i
  obtain ⟨v, hv⟩ := H.ms x hx
  exact ⟨x, v, e, hv, H.nm x v hv, H.vv x v hv⟩
/-- a row of a record of names -/
def RowOk (K : List (Str × D)) (p : Row) : Prop := NmOk p.1 ∧ ∃ x, NmOk x ∧ p.2.1 = nmT x ∧ look K x = some p.2.2
def vals (rows : List Row) : List (Str × D) := rows.map fun p => (p.1, p.2.2)
theorem rec_step (H : Stt B m K sm) (hk : Held rk (.dct K)) {rows : List Row} (kk : Keys (vals rows)) (hp : ∀ p, p ∈ rows → RowOk K p) (hl : rows.length ≤ 60) : StepOk B m K (.ok (.own (.lst [.tup [.str "record", .lst (rows.map Row.t)], .dct (vals rows)]))) := by
  have hz : lim = 16777216 := rfl
  refine ⟨_, _, rfl, ?_, ?_, ?_, ?_⟩
  · have z := rk_record (dl := []) (ns := K) rkt (rows := rows) (n1 := 1) (fun p h => by
      obtain ⟨_, x, _, e, hx⟩ := hp p h
      rw [e]
      exact rk_name rkt hx) (by omega)
    have em : merge [] (rows.map fun (p : Row) => (p.1, p.2.2)) = vals rows := merge_keys kk
    rw [em] at z
    exact z.mono (by omega)
  · refine .rcd kk ?_ ?_ ?_
    · show (rows.map _).length ≤ _
      rw [List.length_map]
      have := H.lo
      omega
    · intro q hq
      obtain ⟨p, hp', e⟩ := List.mem_map.mp hq
      rw [← e]
      exact (hp p hp').1
    · intro q hq
      obtain ⟨p, hp', e⟩ := List.mem_map.mp hq
      obtain ⟨_, x, _, _, hx⟩ := hp p hp'
      rw [← e]
      exact (H.vv x _ hx).mono (by omega) (Nat.le_refl _)
  · have z : Shw 3 (.lst (rows.map Row.t)) := (Shw.lst (m := 2) fun d hd => by
      obtain ⟨p, hp', e⟩ := List.mem_map.mp hd
      obtain ⟨h1, x, h2, h3, _⟩ := hp p hp'
      rw [← e]
      unfold Row.t
      rw [h3]
      exact shw2 (h1.shw.mono (by omega)) (nmT_shw h2)).1
    exact (shw2 ((shw_w (by decide +kernel)).mono (by omega)) z).mono (by omega)
  · have z := bkL_le (M := 50) (xs := rows.map Row.t) fun d hd => by
      obtain ⟨p, hp', e⟩ := List.mem_map.mp hd
      obtain ⟨h1, x, h2, h3, _⟩ := hp p hp'
      rw [← e]
      unfold Row.t
      rw [h3, bk2]
      have a := nm_bk h1
      have b := nmT_bk h2
      omega
    rw [List.length_map] at z
    rw [bk2, bk_lst]
    have b := w_bk (x := "record") (by decide +kernel)
    omega
theorem record_ok (H : Stt B m K sm) (hk : Held rk (.dct K)) (hs : Held rs (.lst (sm.map D.str))) (cell : Int) : StepOk B m K (callN tab (n + 2) 15 [rk, rs, .val (.int cell)]) := by
  obtain ⟨c0, h0, d0, ec0⟩ := id hk
  obtain ⟨c1, h1, d1, ec1⟩ := id hs
  have hz : lim = 16777216 := rfl
  rw [call_fin tab (n + 1) 15 f_law_record _ rfl rfl]
  have e0 : startE f_law_record.N.length [rk, rs, .val (.int cell)] = [c0, c1, .val (.int cell), .no, .no, .no, .no, .no, .no] := by rw [← ec0, ← ec1]; rfl
  rw [e0]
  have d5 := fun (i : Int) => b_fdiv (i := i) (j := 5) ⟨by decide, by decide⟩
  have d7 := fun (i : Int) => b_fdiv (i := i) (j := 7) ⟨by decide, by decide⟩
  have d45 := fun (i : Int) => b_fdiv (i := i) (j := 45) ⟨by decide, by decide⟩
  have m5 := fun (i : Int) => b_mod (i := i) (j := 5) (by decide)
  have m9 := fun (i : Int) => b_mod (i := i) (j := 9) (by decide)
  have begin_ : ∃ z : Int, 0 ≤ z ∧ z ≤ 60 ∧ evSs (callN tab (n + 1)) tab.sub [c0, c1, .val (.int cell), .no, .no, .no, .no, .no, .no] f_law_record.body = runSs (callN tab (n + 1)) tab.sub (evS (callN tab (n + 1)) tab.sub [c0, c1, .val (.int cell), .val (.int z), .own (.lst []), .own (.dct []), .no, .no, .no] (.forr [6] (.range (.var 3)) b_law_record_0)) r_law_record_0 := by
    cases q : ((cell.fdiv 5).fmod 9 == 4) with
    | true =>
      refine ⟨60, by decide, by decide, ?_⟩
      simp only [f_law_record, x_str, x_int, x_var, x_bin, x_cmp, x_bl, x_sub, x_slc, x_call, x_tup, x_lst, x_dct, x_and, x_or, x_not, x_isi, x_bfn, xs_nil, xs_cons, bind_ok, d_val, d_own, d_bor, c_eqi, c_eqs, c_lt, c_le, c_gt, c_ge, bl_val, cell_val, cell_own, cell_lent, cell_bor, vas_nil, vas_cons, va_val, va_own, b_add, b_sub, and_nil, or_nil, q_and, q_or, q_at, q_af, q_ot, q_of, c_ind, c_nind, pu_nil, mg_nil, q_an, q_on, c_nes, c_neb, c_eqb, Bool.not_true, Bool.not_false, q_cons, q_nx, q_ret, q_if, q_tt, q_ff, ss_nil, ss_frz, s_asg, s_ret, out_ok, give_val, give_own, fin_ret, fin_nx, ret_val, ret_own, frz_own, frz_val, frz_bor, List.getD_cons_zero, List.getD_cons_succ, startE, List.map_cons, List.map_nil, List.length_cons, List.length_nil, List.replicate, List.cons_append, List.nil_append, List.getElem?_cons_zero, List.getElem?_cons_succ, List.set_cons_zero, List.set_cons_succ, Nat.reduceSub, Nat.reduceAdd, decide_true, decide_false, Int.reduceAdd, Int.reduceSub, beq_self_eq_true, Bool.false_eq_true, if_false, if_true, d5, m5, m9, q]
    | false =>
      obtain ⟨p0, p1⟩ := fmod_range (a := cell) (m := 5) (by decide)
      refine ⟨cell.fmod 5, by omega, by omega, ?_⟩
      simp only [f_law_record, x_str, x_int, x_var, x_bin, x_cmp, x_bl, x_sub, x_slc, x_call, x_tup, x_lst, x_dct, x_and, x_or, x_not, x_isi, x_bfn, xs_nil, xs_cons, bind_ok, d_val, d_own, d_bor, c_eqi, c_eqs, c_lt, c_le, c_gt, c_ge, bl_val, cell_val, cell_own, cell_lent, cell_bor, vas_nil, vas_cons, va_val, va_own, b_add, b_sub, and_nil, or_nil, q_and, q_or, q_at, q_af, q_ot, q_of, c_ind, c_nind, pu_nil, mg_nil, q_an, q_on, c_nes, c_neb, c_eqb, Bool.not_true, Bool.not_false, q_cons, q_nx, q_ret, q_if, q_tt, q_ff, ss_nil, ss_frz, s_asg, s_ret, out_ok, give_val, give_own, fin_ret, fin_nx, ret_val, ret_own, frz_own, frz_val, frz_bor, List.getD_cons_zero, List.getD_cons_succ, startE, List.map_cons, List.map_nil, List.length_cons, List.length_nil, List.replicate, List.cons_append, List.nil_append, List.getElem?_cons_zero, List.getElem?_cons_succ, List.set_cons_zero, List.set_cons_succ, Nat.reduceSub, Nat.reduceAdd, decide_true, decide_false, Int.reduceAdd, Int.reduceSub, beq_self_eq_true, Bool.false_eq_true, if_false, if_true, d5, m5, m9, q]
  obtain ⟨z, z0, z1, ez⟩ := begin_
  rw [ez]
  have hzi : (lim : Int) = 16777216 := rfl
  have it1 : evIt (callN tab (n + 1)) tab.sub [c0, c1, .val (.int cell), .val (.int z), .own (.lst []), .own (.dct []), .no, .no, .no] (.range (.var 3)) = .ok ((List.range z.toNat).map fun (i : Nat) => D.int i) := by
    rw [i_range, x_var]
    exact r_of (by omega) (by omega)
  obtain ⟨e', k1, k2⟩ := for_inv (tg := [6]) (b := b_law_record_0) it1 (fun i e => ∃ (rows : List Row) (c6 c7 c8 : Cel), e = [c0, c1, .val (.int cell), .val (.int z), .own (.lst (rows.map Row.t)), .own (.dct (vals rows)), c6, c7, c8] ∧ rows.length ≤ i ∧ Keys (vals rows) ∧ ∀ p, p ∈ rows → RowOk K p)
    ⟨[], .no, .no, .no, rfl, Nat.le_refl _, keys_nil, fun p h => by cases h⟩ (fun i d e1 hd ⟨rows, c6, c7, c8, e0, hl, kk, hp⟩ => by
      obtain ⟨ed, hi⟩ := get_range hd
      subst ed e0
      obtain ⟨w1, mu1⟩ : ∃ w1, binop .mul (.int 3) (.int (i : Int)) = .ok (.val (.int w1)) := ⟨_, b_mul (small_n (by omega) (by omega))⟩
      obtain ⟨w2, mu2⟩ : ∃ w2, binop .mul (.int 5) (.int (i : Int)) = .ok (.val (.int w2)) := ⟨_, b_mul (small_n (by omega) (by omega))⟩
      obtain ⟨t, nt, ht⟩ := name5_ok (n := n) (cell.fdiv 45 + w1)
      obtain ⟨x, v, px, hx, nx, vx⟩ := H.pick (cell.fdiv 7 + w2)
      have ln := len_str H.sl
      have ms := fun (i : Int) => b_mod (i := i) (j := (sm.length : Int)) (by
        have z := H.ne
        cases sm with
        | nil => exact absurd rfl z
        | cons p r => simp only [List.length_cons]; omega)
      have hs : List.set [c0, c1, .val (.int cell), .val (.int z), .own (.lst (rows.map Row.t)), .own (.dct (vals rows)), c6, c7, c8] 6 (.val (.int (i : Int))) = [c0, c1, .val (.int cell), .val (.int z), .own (.lst (rows.map Row.t)), .own (.dct (vals rows)), .val (.int (i : Int)), c7, c8] := rfl
      cases q : has (vals rows) t with
      | true =>
        refine ⟨_, [c0, c1, .val (.int cell), .val (.int z), .own (.lst (rows.map Row.t)), .own (.dct (vals rows)), .val (.int (i : Int)), .val (.str t), .val (.str x)], set_one, ?_, rows, .val (.int (i : Int)), .val (.str t), .val (.str x), rfl, by omega, kk, hp⟩
        rw [hs]
        simp only [b_law_record_0, x_str, x_int, x_var, x_bin, x_cmp, x_bl, x_sub, x_slc, x_call, x_tup, x_lst, x_dct, x_and, x_or, x_not, x_isi, x_bfn, xs_nil, xs_cons, bind_ok, d_val, d_own, d_bor, c_eqi, c_eqs, c_lt, c_le, c_gt, c_ge, bl_val, cell_val, cell_own, cell_lent, cell_bor, vas_nil, vas_cons, va_val, va_own, b_add, b_sub, and_nil, or_nil, q_and, q_or, q_at, q_af, q_ot, q_of, c_ind, c_nind, pu_nil, mg_nil, q_an, q_on, c_nes, c_neb, c_eqb, Bool.not_true, Bool.not_false, q_cons, q_nx, q_ret, q_if, q_tt, q_ff, ss_nil, ss_frz, s_asg, s_ret, out_ok, give_val, give_own, fin_ret, fin_nx, ret_val, ret_own, frz_own, frz_val, frz_bor, List.getD_cons_zero, List.getD_cons_succ, startE, List.map_cons, List.map_nil, List.length_cons, List.length_nil, List.replicate, List.cons_append, List.nil_append, List.getElem?_cons_zero, List.getElem?_cons_succ, List.set_cons_zero, List.set_cons_succ, Nat.reduceSub, Nat.reduceAdd, decide_true, decide_false, Int.reduceAdd, Int.reduceSub, beq_self_eq_true, Bool.false_eq_true, if_false, if_true, h1, d1, d45, d7, mu1, mu2, nt, ms, ln, px, q]
      | false =>
        have ep : put (vals rows) t v = vals (rows ++ [(t, nmT x, v)]) := by
          unfold put vals
          unfold vals at q
          rw [q, List.map_append]
          rfl
        have kk2 : Keys (vals (rows ++ [(t, nmT x, v)])) := by rw [← ep]; exact put_keys kk
        have al : (rows.map Row.t).length < lim := by rw [List.length_map]; omega
        have vl : (vals rows).length < lim := by
          show (rows.map _).length < lim
          rw [List.length_map]; omega
        have ap : evS (callN tab (n + 1)) tab.sub [c0, c1, .val (.int cell), .val (.int z), .own (.lst (rows.map Row.t)), .own (.dct (vals rows)), .val (.int (i : Int)), .val (.str t), .val (.str x)] (.app 4 (.tup (.cons (.var 7) (.cons (.tup (.cons (.cstr ("name" : Str)) (.cons (.var 8) .nil))) .nil)))) = .nx [c0, c1, .val (.int cell), .val (.int z), .own (.lst ((rows ++ [(t, nmT x, v)]).map Row.t)), .own (.dct (vals rows)), .val (.int (i : Int)), .val (.str t), .val (.str x)] := by
          rw [s_appO (xs := rows.map Row.t) rfl]
          simp only [x_str, x_int, x_var, x_bin, x_cmp, x_bl, x_sub, x_slc, x_call, x_tup, x_lst, x_dct, x_and, x_or, x_not, x_isi, x_bfn, xs_nil, xs_cons, bind_ok, d_val, d_own, d_bor, c_eqi, c_eqs, c_lt, c_le, c_gt, c_ge, bl_val, cell_val, cell_own, cell_lent, cell_bor, vas_nil, vas_cons, va_val, va_own, b_add, b_sub, and_nil, or_nil, q_and, q_or, q_at, q_af, q_ot, q_of, c_ind, c_nind, pu_nil, mg_nil, q_an, q_on, c_nes, c_neb, c_eqb, Bool.not_true, Bool.not_false, startE, List.map_cons, List.map_nil, List.length_cons, List.length_nil, List.replicate, List.cons_append, List.nil_append, List.getElem?_cons_zero, List.getElem?_cons_succ, List.set_cons_zero, List.set_cons_succ, Nat.reduceSub, Nat.reduceAdd, decide_true, decide_false, Int.reduceAdd, Int.reduceSub, beq_self_eq_true, Bool.false_eq_true, if_false, if_true]
          rw [out_ok, if_pos al, List.map_append]
          rfl
        have se : evS (callN tab (n + 1)) tab.sub [c0, c1, .val (.int cell), .val (.int z), .own (.lst ((rows ++ [(t, nmT x, v)]).map Row.t)), .own (.dct (vals rows)), .val (.int (i : Int)), .val (.str t), .val (.str x)] (.setI 5 (.var 7) (.sub (.var 0) (.var 8))) = .nx [c0, c1, .val (.int cell), .val (.int z), .own (.lst ((rows ++ [(t, nmT x, v)]).map Row.t)), .own (.dct (vals (rows ++ [(t, nmT x, v)]))), .val (.int (i : Int)), .val (.str t), .val (.str x)] := by
          rw [s_setO (d := .dct (vals rows)) rfl]
          simp only [x_str, x_int, x_var, x_bin, x_cmp, x_bl, x_sub, x_slc, x_call, x_tup, x_lst, x_dct, x_and, x_or, x_not, x_isi, x_bfn, xs_nil, xs_cons, bind_ok, d_val, d_own, d_bor, c_eqi, c_eqs, c_lt, c_le, c_gt, c_ge, bl_val, cell_val, cell_own, cell_lent, cell_bor, vas_nil, vas_cons, va_val, va_own, b_add, b_sub, and_nil, or_nil, q_and, q_or, q_at, q_af, q_ot, q_of, c_ind, c_nind, pu_nil, mg_nil, q_an, q_on, c_nes, c_neb, c_eqb, Bool.not_true, Bool.not_false, startE, List.map_cons, List.map_nil, List.length_cons, List.length_nil, List.replicate, List.cons_append, List.nil_append, List.getElem?_cons_zero, List.getElem?_cons_succ, List.set_cons_zero, List.set_cons_succ, Nat.reduceSub, Nat.reduceAdd, decide_true, decide_false, Int.reduceAdd, Int.reduceSub, beq_self_eq_true, Bool.false_eq_true, if_false, if_true, h0, d0, sub_dct hx]
          rw [out_ok, setO_dct rfl vl, ep]
          rfl
        refine ⟨_, [c0, c1, .val (.int cell), .val (.int z), .own (.lst ((rows ++ [(t, nmT x, v)]).map Row.t)), .own (.dct (vals (rows ++ [(t, nmT x, v)]))), .val (.int (i : Int)), .val (.str t), .val (.str x)], set_one, ?_, rows ++ [(t, nmT x, v)], .val (.int (i : Int)), .val (.str t), .val (.str x), rfl, by rw [List.length_append]; show rows.length + 1 ≤ _; omega, kk2, fun p h => ?_⟩
        · rw [hs]
          simp only [b_law_record_0, x_str, x_int, x_var, x_bin, x_cmp, x_bl, x_sub, x_slc, x_call, x_tup, x_lst, x_dct, x_and, x_or, x_not, x_isi, x_bfn, xs_nil, xs_cons, bind_ok, d_val, d_own, d_bor, c_eqi, c_eqs, c_lt, c_le, c_gt, c_ge, bl_val, cell_val, cell_own, cell_lent, cell_bor, vas_nil, vas_cons, va_val, va_own, b_add, b_sub, and_nil, or_nil, q_and, q_or, q_at, q_af, q_ot, q_of, c_ind, c_nind, pu_nil, mg_nil, q_an, q_on, c_nes, c_neb, c_eqb, Bool.not_true, Bool.not_false, q_cons, q_nx, q_ret, q_if, q_tt, q_ff, ss_nil, ss_frz, s_asg, s_ret, out_ok, give_val, give_own, fin_ret, fin_nx, ret_val, ret_own, frz_own, frz_val, frz_bor, List.getD_cons_zero, List.getD_cons_succ, startE, List.map_cons, List.map_nil, List.length_cons, List.length_nil, List.replicate, List.cons_append, List.nil_append, List.getElem?_cons_zero, List.getElem?_cons_succ, List.set_cons_zero, List.set_cons_succ, Nat.reduceSub, Nat.reduceAdd, decide_true, decide_false, Int.reduceAdd, Int.reduceSub, beq_self_eq_true, Bool.false_eq_true, if_false, if_true, h1, d1, d45, d7, mu1, mu2, nt, ms, ln, px, q, ap, se]
        · rcases List.mem_append.mp h with h | h
          · exact hp p h
          · have e : p = (t, nmT x, v) := by simpa using h
            rw [e]
            exact ⟨ht.nm, x, nx, rfl, hx⟩)
  obtain ⟨rows, c6, c7, c8, e0, hl, kk, hp⟩ := k2
  subst e0
  rw [List.length_map, List.length_range] at hl
  have k1 : evS (callN tab (n + 1)) tab.sub [c0, c1, .val (.int cell), .val (.int z), .own (.lst []), .own (.dct []), .no, .no, .no] (.forr [6] (.range (.var 3)) b_law_record_0) = .nx [c0, c1, .val (.int cell), .val (.int z), .own (.lst (rows.map Row.t)), .own (.dct (vals rows)), c6, c7, c8] := by
    rw [k1]
    cases c0 <;> cases c1 <;> rfl
  rw [k1, q_nx]
  have fin : (evSs (callN tab (n + 1)) tab.sub [c0, c1, .val (.int cell), .val (.int z), .own (.lst (rows.map Row.t)), .own (.dct (vals rows)), c6, c7, c8] r_law_record_0).fin = .ok (.own (.lst [.tup [.str "record", .lst (rows.map Row.t)], .dct (vals rows)])) := by
    simp only [r_law_record_0, x_str, x_int, x_var, x_bin, x_cmp, x_bl, x_sub, x_slc, x_call, x_tup, x_lst, x_dct, x_and, x_or, x_not, x_isi, x_bfn, xs_nil, xs_cons, bind_ok, d_val, d_own, d_bor, c_eqi, c_eqs, c_lt, c_le, c_gt, c_ge, bl_val, cell_val, cell_own, cell_lent, cell_bor, vas_nil, vas_cons, va_val, va_own, b_add, b_sub, and_nil, or_nil, q_and, q_or, q_at, q_af, q_ot, q_of, c_ind, c_nind, pu_nil, mg_nil, q_an, q_on, c_nes, c_neb, c_eqb, Bool.not_true, Bool.not_false, q_cons, q_nx, q_ret, q_if, q_tt, q_ff, ss_nil, ss_frz, s_asg, s_ret, out_ok, give_val, give_own, fin_ret, fin_nx, ret_val, ret_own, frz_own, frz_val, frz_bor, List.getD_cons_zero, List.getD_cons_succ, startE, List.map_cons, List.map_nil, List.length_cons, List.length_nil, List.replicate, List.cons_append, List.nil_append, List.getElem?_cons_zero, List.getElem?_cons_succ, List.set_cons_zero, List.set_cons_succ, Nat.reduceSub, Nat.reduceAdd, decide_true, decide_false, Int.reduceAdd, Int.reduceSub, beq_self_eq_true, Bool.false_eq_true, if_false, if_true]
  rw [fin]
  exact rec_step H hk kk hp (by omega)
end
end K05
set_option Elab.async false
set_option linter.all false
set_option maxRecDepth 100000
set_option maxHeartbeats 4000000
set_option autoImplicit false
namespace K05
open PySem Ev L2
section
variable {B m : Nat} {K : List (Str × D)} {sm : List Str} {rk rs : RV} {n : Nat}
theorem ret_rec {o : Rs RV} {e : En} {x : X} {r : Ss} {call : Nat → List RV → Rs RV} {sub : Sub} (h : StepOk B m K o) : (runSs call sub ((o.bind (retR e x)).out e fun r => .ret r) r).fin = o := by
  obtain ⟨t, v, e1, _⟩ := h
  rw [e1]
  rfl
theorem len_pos {l : List Str} (h : l ≠ []) : ((l.length : Nat) : Int) ≠ 0 := by
  cases l with
  | nil => exact absurd rfl h
  | cons p r => simp only [List.length_cons]; omega
theorem dlen_pos {l : List (Str × D)} (h : l ≠ []) : ((l.length : Nat) : Int) ≠ 0 := by
  cases l with
  | nil => exact absurd rfl h
  | cons p r => simp only [List.length_cons]; omega
theorem emp_t {A : Type} {l : List A} (h : l = []) : l.isEmpty = true := by rw [h]; rfl
theorem emp_f {A : Type} {l : List A} (h : l ≠ []) : l.isEmpty = false := by
  cases l with
  | nil => exact absurd rfl h
  | cons p r => rfl
theorem emp_ms {l : List Str} : (l.map D.str).isEmpty = l.isEmpty := by cases l <;> rfl
theorem Stt.dct (H : Stt B m K sm) {x : Str} {ks : List (Str × D)} (h : look K x = some (.dct ks)) : ks.length ≤ lim ∧ ks.length < lim := by
  have hz : lim = 16777216 := rfl
  have z := (H.vv x _ h).rcd_inv.2.1
  have y := H.hi
  omega
theorem key_nm (H : Stt B m K sm) {x f : Str} {ks : List (Str × D)} {v : D} (h : look K x = some (.dct ks)) (hf : look ks f = some v) : NmOk f ∧ VV B m v := by
  obtain ⟨_, _, a, b⟩ := (H.vv x _ h).rcd_inv
  exact ⟨a _ (lookQ_mem hf), b _ (lookQ_mem hf)⟩
theorem field_ok (H : Stt B m K sm) (hk : Held rk (.dct K)) (hs : Held rs (.lst (sm.map D.str))) (cell : Int) : StepOk B m K (callN tab (n + 3) 16 [rk, rs, .val (.int cell)]) := by
  obtain ⟨c0, h0, d0, ec0⟩ := id hk
  obtain ⟨c1, h1, d1, ec1⟩ := id hs
  rw [call_fin tab (n + 2) 16 f_law_field _ rfl rfl]
  have e0 : startE f_law_field.N.length [rk, rs, .val (.int cell)] = [c0, c1, .val (.int cell), .no, .no, .no, .no] := by rw [← ec0, ← ec1]; rfl
  rw [e0]
  have ro := record_ok (n := n) H hk hs cell
  have d60 := fun (i : Int) => b_fdiv (i := i) (j := 60) ⟨by decide, by decide⟩
  have hlK : K.length ≤ lim := Nat.le_of_lt H.len
  have comp : ∃ l : List Str, evX (callN tab (n + 2)) tab.sub [c0, c1, .val (.int cell), .no, .no, .no, .no] (.comp (.var 6) [6] (.ex (.var 0)) (.and (.cons (.isi (.sub (.var 0) (.var 6)) [.dict]) (.cons (.cmp .ne (.sub (.var 0) (.var 6)) (.dct .nil)) .nil)))) = .ok (.own (.lst (l.map D.str))) ∧ l.length ≤ lim ∧ ∀ x, x ∈ l → ∃ ks, look K x = some (.dct ks) ∧ ks ≠ [] := by
    have em : (K.map fun kv => D.str kv.1) = (K.map fun kv => kv.1).map D.str := by rw [List.map_map]; rfl
    rw [x_comp, it_dct rfl h0 d0 hlK, bind_ok, if_pos (by rw [List.length_map]; exact hlK), em]
    obtain ⟨l, q1, q2, q3⟩ := comp_keep (its := K.map fun kv => kv.1) (P := fun x => ∃ ks, look K x = some (.dct ks) ∧ ks ≠ []) (one := fun d => ((setT [6] d (wipeS [6] [c0, c1, .val (.int cell), .no, .no, .no, .no])).bind fun e' =>
        ((evX (callN tab (n + 2)) tab.sub e' (.and (.cons (.isi (.sub (.var 0) (.var 6)) [.dict]) (.cons (.cmp .ne (.sub (.var 0) (.var 6)) (.dct .nil)) .nil)))).bind asBl).bind fun b => if b = true then (evX (callN tab (n + 2)) tab.sub e' (.var 6)).bind fun y => (asVal y).bind fun d => .ok (some d) else .ok none).noX) (fun x hx => by
      obtain ⟨p, hp, e⟩ := List.mem_map.mp hx
      obtain ⟨v, hv⟩ := look_has (ks := K) (k := x) (has_iff.mpr (List.mem_map.mpr ⟨p, hp, e⟩))
      have hs : List.set (wipeS [6] [c0, c1, .val (.int cell), .no, .no, .no, .no]) 6 (.val (.str x)) = [c0, c1, .val (.int cell), .no, .no, .no, .val (.str x)] := rfl
      rw [set_one, bind_ok, hs]
      have vv := H.vv x v hv
      by_cases isd : ∃ ks, v = .dct ks
      · obtain ⟨ks, ev⟩ := isd
        subst ev
        have t2 : ([Ty.dict].any (D.dct ks).isTy) = true := rfl
        by_cases ke : ks = []
        · refine .inr ?_
          simp only [x_str, x_int, x_var, x_bin, x_cmp, x_bl, x_sub, x_slc, x_call, x_tup, x_lst, x_dct, x_and, x_or, x_not, x_isi, x_bfn, xs_nil, xs_cons, bind_ok, d_val, d_own, d_bor, c_eqi, c_eqs, c_lt, c_le, c_gt, c_ge, bl_val, cell_val, cell_own, cell_lent, cell_bor, vas_nil, vas_cons, va_val, va_own, b_add, b_sub, and_nil, or_nil, q_and, q_or, q_at, q_af, q_ot, q_of, c_ind, c_nind, pu_nil, mg_nil, q_an, q_on, c_nes, c_neb, c_eqb, Bool.not_true, Bool.not_false, q_cons, q_nx, q_ret, q_if, q_tt, q_ff, ss_nil, ss_frz, s_asg, s_ret, out_ok, give_val, give_own, fin_ret, fin_nx, ret_val, ret_own, frz_own, frz_val, frz_bor, List.getD_cons_zero, List.getD_cons_succ, startE, List.map_cons, List.map_nil, List.length_cons, List.length_nil, List.replicate, List.cons_append, List.nil_append, List.getElem?_cons_zero, List.getElem?_cons_succ, List.set_cons_zero, List.set_cons_succ, Nat.reduceSub, Nat.reduceAdd, decide_true, decide_false, Int.reduceAdd, Int.reduceSub, beq_self_eq_true, Bool.false_eq_true, if_false, if_true, h0, d0, sub_dct hv, t2, ne_emp, emp_t ke, noX_ok]
        · refine .inl ⟨?_, ks, hv, ke⟩
          simp only [x_str, x_int, x_var, x_bin, x_cmp, x_bl, x_sub, x_slc, x_call, x_tup, x_lst, x_dct, x_and, x_or, x_not, x_isi, x_bfn, xs_nil, xs_cons, bind_ok, d_val, d_own, d_bor, c_eqi, c_eqs, c_lt, c_le, c_gt, c_ge, bl_val, cell_val, cell_own, cell_lent, cell_bor, vas_nil, vas_cons, va_val, va_own, b_add, b_sub, and_nil, or_nil, q_and, q_or, q_at, q_af, q_ot, q_of, c_ind, c_nind, pu_nil, mg_nil, q_an, q_on, c_nes, c_neb, c_eqb, Bool.not_true, Bool.not_false, q_cons, q_nx, q_ret, q_if, q_tt, q_ff, ss_nil, ss_frz, s_asg, s_ret, out_ok, give_val, give_own, fin_ret, fin_nx, ret_val, ret_own, frz_own, frz_val, frz_bor, List.getD_cons_zero, List.getD_cons_succ, startE, List.map_cons, List.map_nil, List.length_cons, List.length_nil, List.replicate, List.cons_append, List.nil_append, List.getElem?_cons_zero, List.getElem?_cons_succ, List.set_cons_zero, List.set_cons_succ, Nat.reduceSub, Nat.reduceAdd, decide_true, decide_false, Int.reduceAdd, Int.reduceSub, beq_self_eq_true, Bool.false_eq_true, if_false, if_true, h0, d0, sub_dct hv, t2, ne_emp, emp_f ke, noX_ok]
      · have t2 : ([Ty.dict].any v.isTy) = false := by
          cases v <;> first
            | rfl
            | exact absurd ⟨_, rfl⟩ isd
        refine .inr ?_
        simp only [x_str, x_int, x_var, x_bin, x_cmp, x_bl, x_sub, x_slc, x_call, x_tup, x_lst, x_dct, x_and, x_or, x_not, x_isi, x_bfn, xs_nil, xs_cons, bind_ok, d_val, d_own, d_bor, c_eqi, c_eqs, c_lt, c_le, c_gt, c_ge, bl_val, cell_val, cell_own, cell_lent, cell_bor, vas_nil, vas_cons, va_val, va_own, b_add, b_sub, and_nil, or_nil, q_and, q_or, q_at, q_af, q_ot, q_of, c_ind, c_nind, pu_nil, mg_nil, q_an, q_on, c_nes, c_neb, c_eqb, Bool.not_true, Bool.not_false, q_cons, q_nx, q_ret, q_if, q_tt, q_ff, ss_nil, ss_frz, s_asg, s_ret, out_ok, give_val, give_own, fin_ret, fin_nx, ret_val, ret_own, frz_own, frz_val, frz_bor, List.getD_cons_zero, List.getD_cons_succ, startE, List.map_cons, List.map_nil, List.length_cons, List.length_nil, List.replicate, List.cons_append, List.nil_append, List.getElem?_cons_zero, List.getElem?_cons_succ, List.set_cons_zero, List.set_cons_succ, Nat.reduceSub, Nat.reduceAdd, decide_true, decide_false, Int.reduceAdd, Int.reduceSub, beq_self_eq_true, Bool.false_eq_true, if_false, if_true, h0, d0, sub_dct hv, t2, noX_ok])
    rw [q1]
    exact ⟨l, rfl, by rw [List.length_map] at q3; omega, fun x hx => (q2 x hx).2⟩
  obtain ⟨l, q1, q2, q3⟩ := comp
  by_cases le : l = []
  · obtain ⟨t0, v0, er, rest⟩ := ro
    have st : (evSs (callN tab (n + 2)) tab.sub [c0, c1, .val (.int cell), .no, .no, .no, .no] f_law_field.body).fin = .ok (.own (.lst [t0, v0])) := by
      simp only [f_law_field, x_str, x_int, x_var, x_bin, x_cmp, x_bl, x_sub, x_slc, x_call, x_tup, x_lst, x_dct, x_and, x_or, x_not, x_isi, x_bfn, xs_nil, xs_cons, bind_ok, d_val, d_own, d_bor, c_eqi, c_eqs, c_lt, c_le, c_gt, c_ge, bl_val, cell_val, cell_own, cell_lent, cell_bor, vas_nil, vas_cons, va_val, va_own, b_add, b_sub, and_nil, or_nil, q_and, q_or, q_at, q_af, q_ot, q_of, c_ind, c_nind, pu_nil, mg_nil, q_an, q_on, c_nes, c_neb, c_eqb, Bool.not_true, Bool.not_false, q_cons, q_nx, q_ret, q_if, q_tt, q_ff, ss_nil, ss_frz, s_asg, s_ret, out_ok, give_val, give_own, fin_ret, fin_nx, ret_val, ret_own, frz_own, frz_val, frz_bor, List.getD_cons_zero, List.getD_cons_succ, startE, List.map_cons, List.map_nil, List.length_cons, List.length_nil, List.replicate, List.cons_append, List.nil_append, List.getElem?_cons_zero, List.getElem?_cons_succ, List.set_cons_zero, List.set_cons_succ, Nat.reduceSub, Nat.reduceAdd, decide_true, decide_false, Int.reduceAdd, Int.reduceSub, beq_self_eq_true, Bool.false_eq_true, if_false, if_true, h0, h1, q1, em_lst, emp_ms, emp_t le, er]
    rw [st]
    exact ⟨_, _, rfl, rest⟩
  · obtain ⟨x, hx, px⟩ := pick_str le cell
    obtain ⟨ks, hks, kne⟩ := q3 x hx
    obtain ⟨f, v, pf, hf, _⟩ := key_at kne (cell.fdiv 60)
    obtain ⟨nf, vf⟩ := key_nm H hks hf
    have nx := H.nm x _ hks
    have ms := fun (i : Int) => b_mod (i := i) (j := (l.length : Int)) (len_pos le)
    have mk := fun (i : Int) => b_mod (i := i) (j := (ks.length : Int)) (dlen_pos kne)
    have st : (evSs (callN tab (n + 2)) tab.sub [c0, c1, .val (.int cell), .no, .no, .no, .no] f_law_field.body).fin = .ok (.own (.lst [.tup [.str "field", nmT x, .str f], v])) := by
      simp only [f_law_field, x_str, x_int, x_var, x_bin, x_cmp, x_bl, x_sub, x_slc, x_call, x_tup, x_lst, x_dct, x_and, x_or, x_not, x_isi, x_bfn, xs_nil, xs_cons, bind_ok, d_val, d_own, d_bor, c_eqi, c_eqs, c_lt, c_le, c_gt, c_ge, bl_val, cell_val, cell_own, cell_lent, cell_bor, vas_nil, vas_cons, va_val, va_own, b_add, b_sub, and_nil, or_nil, q_and, q_or, q_at, q_af, q_ot, q_of, c_ind, c_nind, pu_nil, mg_nil, q_an, q_on, c_nes, c_neb, c_eqb, Bool.not_true, Bool.not_false, q_cons, q_nx, q_ret, q_if, q_tt, q_ff, ss_nil, ss_frz, s_asg, s_ret, out_ok, give_val, give_own, fin_ret, fin_nx, ret_val, ret_own, frz_own, frz_val, frz_bor, List.getD_cons_zero, List.getD_cons_succ, startE, List.map_cons, List.map_nil, List.length_cons, List.length_nil, List.replicate, List.cons_append, List.nil_append, List.getElem?_cons_zero, List.getElem?_cons_succ, List.set_cons_zero, List.set_cons_succ, Nat.reduceSub, Nat.reduceAdd, decide_true, decide_false, Int.reduceAdd, Int.reduceSub, beq_self_eq_true, Bool.false_eq_true, if_false, if_true, h0, d0, q1, em_lst, emp_ms, emp_f le, len_str q2, ms, px, sub_dct hks, lstQ_dct, d60, len_dct (H.dct hks).1, mk, pf, sub_dct hf]
      rfl
    rw [st]
    refine ⟨_, _, rfl, ?_, vf.mono (by omega) (by omega), ?_, ?_⟩
    · have z := rk_field (dl := []) (ns := K) rkt (f := f) (rk_name rkt hks)
      rw [hf] at z
      exact z.mono (by omega)
    · exact (shw3 (shw_w (by decide +kernel) |>.mono (Nat.zero_le _)) (nmT_shw nx) (nf.shw.mono (Nat.zero_le _))).mono (by omega)
    · rw [bk3]
      have a := nmT_bk nx
      have b := nm_bk nf
      have c := w_bk (x := "field") (by decide +kernel)
      omega
theorem with_ok (H : Stt B m K sm) (hk : Held rk (.dct K)) (hs : Held rs (.lst (sm.map D.str))) (cell : Int) : StepOk B m K (callN tab (n + 3) 17 [rk, rs, .val (.int cell)]) := by
  obtain ⟨c0, h0, d0, ec0⟩ := id hk
  obtain ⟨c1, h1, d1, ec1⟩ := id hs
  rw [call_fin tab (n + 2) 17 f_law_with _ rfl rfl]
  have e0 : startE f_law_with.N.length [rk, rs, .val (.int cell)] = [c0, c1, .val (.int cell), .no, .no, .no, .no, .no] := by rw [← ec0, ← ec1]; rfl
  rw [e0]
  have ro := record_ok (n := n) H hk hs cell
  have d60 := fun (i : Int) => b_fdiv (i := i) (j := 60) ⟨by decide, by decide⟩
  have d30 := fun (i : Int) => b_fdiv (i := i) (j := 30) ⟨by decide, by decide⟩
  have d61 := fun (i : Int) => b_fdiv (i := i) (j := 61) ⟨by decide, by decide⟩
  have m2 := fun (i : Int) => b_mod (i := i) (j := 2) (by decide)
  obtain ⟨⟨l, q1, q2, q3⟩, _⟩ := of_ok (n := n + 1) hk hs H.sl H.ms B m H.vv
  have q1 : callN tab (n + 2) 14 [rk, rs, .val (.str "record")] = .ok (.own (.lst (l.map D.str))) := q1
  by_cases le : l = []
  · obtain ⟨t0, v0, er, rest⟩ := ro
    have st : (evSs (callN tab (n + 2)) tab.sub [c0, c1, .val (.int cell), .no, .no, .no, .no, .no] f_law_with.body).fin = .ok (.own (.lst [t0, v0])) := by
      simp only [f_law_with, x_str, x_int, x_var, x_bin, x_cmp, x_bl, x_sub, x_slc, x_call, x_tup, x_lst, x_dct, x_and, x_or, x_not, x_isi, x_bfn, xs_nil, xs_cons, bind_ok, d_val, d_own, d_bor, c_eqi, c_eqs, c_lt, c_le, c_gt, c_ge, bl_val, cell_val, cell_own, cell_lent, cell_bor, vas_nil, vas_cons, va_val, va_own, b_add, b_sub, and_nil, or_nil, q_and, q_or, q_at, q_af, q_ot, q_of, c_ind, c_nind, pu_nil, mg_nil, q_an, q_on, c_nes, c_neb, c_eqb, Bool.not_true, Bool.not_false, q_cons, q_nx, q_ret, q_if, q_tt, q_ff, ss_nil, ss_frz, s_asg, s_ret, out_ok, give_val, give_own, fin_ret, fin_nx, ret_val, ret_own, frz_own, frz_val, frz_bor, List.getD_cons_zero, List.getD_cons_succ, startE, List.map_cons, List.map_nil, List.length_cons, List.length_nil, List.replicate, List.cons_append, List.nil_append, List.getElem?_cons_zero, List.getElem?_cons_succ, List.set_cons_zero, List.set_cons_succ, Nat.reduceSub, Nat.reduceAdd, decide_true, decide_false, Int.reduceAdd, Int.reduceSub, beq_self_eq_true, Bool.false_eq_true, if_false, if_true, h0, h1, q1, em_lst, emp_ms, emp_t le, er]
    rw [st]
    exact ⟨_, _, rfl, rest⟩
  · obtain ⟨x, hx, px⟩ := pick_str le cell
    obtain ⟨ks, hks⟩ := q3 x hx
    have nx := H.nm x _ hks
    obtain ⟨t, nt, ht⟩ := name5_ok (n := n + 1) (cell.fdiv 60)
    have nt : callN tab (n + 2) 12 [.val (.int (cell.fdiv 60))] = .ok (.val (.str t)) := nt
    obtain ⟨y, v, py, hy, ny, vy⟩ := H.pick (cell.fdiv 61)
    have ms := fun (i : Int) => b_mod (i := i) (j := (l.length : Int)) (len_pos le)
    have msm := fun (i : Int) => b_mod (i := i) (j := (sm.length : Int)) (len_pos H.ne)
    have fld : ∃ f : Str, NmOk f ∧ (evSs (callN tab (n + 2)) tab.sub [c0, c1, .val (.int cell), .no, .no, .no, .no, .no] f_law_with.body).fin = .ok (.own (.lst [.tup [.str "with", nmT x, .str f, nmT y], .dct (put ks f v)])) := by
      have se : ∀ f : Str, evS (callN tab (n + 2)) tab.sub [c0, c1, .val (.int cell), .own (.lst (l.map D.str)), .val (.str x), .val (.str f), .val (.str y), .own (.dct ks)] (.setI 7 (.var 5) (.sub (.var 0) (.var 6))) = .nx [c0, c1, .val (.int cell), .own (.lst (l.map D.str)), .val (.str x), .val (.str f), .val (.str y), .own (.dct (put ks f v))] := fun f => by
        rw [s_setO (d := .dct ks) rfl]
        simp only [x_str, x_int, x_var, x_bin, x_cmp, x_bl, x_sub, x_slc, x_call, x_tup, x_lst, x_dct, x_and, x_or, x_not, x_isi, x_bfn, xs_nil, xs_cons, bind_ok, d_val, d_own, d_bor, c_eqi, c_eqs, c_lt, c_le, c_gt, c_ge, bl_val, cell_val, cell_own, cell_lent, cell_bor, vas_nil, vas_cons, va_val, va_own, b_add, b_sub, and_nil, or_nil, q_and, q_or, q_at, q_af, q_ot, q_of, c_ind, c_nind, pu_nil, mg_nil, q_an, q_on, c_nes, c_neb, c_eqb, Bool.not_true, Bool.not_false, startE, List.map_cons, List.map_nil, List.length_cons, List.length_nil, List.replicate, List.cons_append, List.nil_append, List.getElem?_cons_zero, List.getElem?_cons_succ, List.set_cons_zero, List.set_cons_succ, Nat.reduceSub, Nat.reduceAdd, decide_true, decide_false, Int.reduceAdd, Int.reduceSub, beq_self_eq_true, Bool.false_eq_true, if_false, if_true, h0, d0, sub_dct hy]
        rw [out_ok, setO_dct rfl (H.dct hks).2]
        rfl
      by_cases ke : ks = []
      · refine ⟨t, ht.nm, ?_⟩
        cases q : ((cell.fdiv 30).fmod 2 == 0) with
        | true =>
          simp only [f_law_with, x_str, x_int, x_var, x_bin, x_cmp, x_bl, x_sub, x_slc, x_call, x_tup, x_lst, x_dct, x_and, x_or, x_not, x_isi, x_bfn, xs_nil, xs_cons, bind_ok, d_val, d_own, d_bor, c_eqi, c_eqs, c_lt, c_le, c_gt, c_ge, bl_val, cell_val, cell_own, cell_lent, cell_bor, vas_nil, vas_cons, va_val, va_own, b_add, b_sub, and_nil, or_nil, q_and, q_or, q_at, q_af, q_ot, q_of, c_ind, c_nind, pu_nil, mg_nil, q_an, q_on, c_nes, c_neb, c_eqb, Bool.not_true, Bool.not_false, q_cons, q_nx, q_ret, q_if, q_tt, q_ff, ss_nil, ss_frz, s_asg, s_ret, out_ok, give_val, give_own, fin_ret, fin_nx, ret_val, ret_own, frz_own, frz_val, frz_bor, List.getD_cons_zero, List.getD_cons_succ, startE, List.map_cons, List.map_nil, List.length_cons, List.length_nil, List.replicate, List.cons_append, List.nil_append, List.getElem?_cons_zero, List.getElem?_cons_succ, List.set_cons_zero, List.set_cons_succ, Nat.reduceSub, Nat.reduceAdd, decide_true, decide_false, Int.reduceAdd, Int.reduceSub, beq_self_eq_true, Bool.false_eq_true, if_false, if_true, h0, d0, h1, d1, q1, em_lst, emp_ms, emp_f le, len_str q2, ms, px, d60, nt, d30, m2, q, sub_dct hks, ne_emp, emp_t ke, d61, len_str H.sl, msm, py, dct_dct, se]
          rfl
        | false =>
          simp only [f_law_with, x_str, x_int, x_var, x_bin, x_cmp, x_bl, x_sub, x_slc, x_call, x_tup, x_lst, x_dct, x_and, x_or, x_not, x_isi, x_bfn, xs_nil, xs_cons, bind_ok, d_val, d_own, d_bor, c_eqi, c_eqs, c_lt, c_le, c_gt, c_ge, bl_val, cell_val, cell_own, cell_lent, cell_bor, vas_nil, vas_cons, va_val, va_own, b_add, b_sub, and_nil, or_nil, q_and, q_or, q_at, q_af, q_ot, q_of, c_ind, c_nind, pu_nil, mg_nil, q_an, q_on, c_nes, c_neb, c_eqb, Bool.not_true, Bool.not_false, q_cons, q_nx, q_ret, q_if, q_tt, q_ff, ss_nil, ss_frz, s_asg, s_ret, out_ok, give_val, give_own, fin_ret, fin_nx, ret_val, ret_own, frz_own, frz_val, frz_bor, List.getD_cons_zero, List.getD_cons_succ, startE, List.map_cons, List.map_nil, List.length_cons, List.length_nil, List.replicate, List.cons_append, List.nil_append, List.getElem?_cons_zero, List.getElem?_cons_succ, List.set_cons_zero, List.set_cons_succ, Nat.reduceSub, Nat.reduceAdd, decide_true, decide_false, Int.reduceAdd, Int.reduceSub, beq_self_eq_true, Bool.false_eq_true, if_false, if_true, h0, d0, h1, d1, q1, em_lst, emp_ms, emp_f le, len_str q2, ms, px, d60, nt, d30, m2, q, sub_dct hks, ne_emp, emp_t ke, d61, len_str H.sl, msm, py, dct_dct, se]
          rfl
      · obtain ⟨f, w, pf, hf, _⟩ := key_at ke (cell.fdiv 60)
        have mk := fun (i : Int) => b_mod (i := i) (j := (ks.length : Int)) (dlen_pos ke)
        cases q : ((cell.fdiv 30).fmod 2 == 0) with
        | true =>
          refine ⟨f, (key_nm H hks hf).1, ?_⟩
          simp only [f_law_with, x_str, x_int, x_var, x_bin, x_cmp, x_bl, x_sub, x_slc, x_call, x_tup, x_lst, x_dct, x_and, x_or, x_not, x_isi, x_bfn, xs_nil, xs_cons, bind_ok, d_val, d_own, d_bor, c_eqi, c_eqs, c_lt, c_le, c_gt, c_ge, bl_val, cell_val, cell_own, cell_lent, cell_bor, vas_nil, vas_cons, va_val, va_own, b_add, b_sub, and_nil, or_nil, q_and, q_or, q_at, q_af, q_ot, q_of, c_ind, c_nind, pu_nil, mg_nil, q_an, q_on, c_nes, c_neb, c_eqb, Bool.not_true, Bool.not_false, q_cons, q_nx, q_ret, q_if, q_tt, q_ff, ss_nil, ss_frz, s_asg, s_ret, out_ok, give_val, give_own, fin_ret, fin_nx, ret_val, ret_own, frz_own, frz_val, frz_bor, List.getD_cons_zero, List.getD_cons_succ, startE, List.map_cons, List.map_nil, List.length_cons, List.length_nil, List.replicate, List.cons_append, List.nil_append, List.getElem?_cons_zero, List.getElem?_cons_succ, List.set_cons_zero, List.set_cons_succ, Nat.reduceSub, Nat.reduceAdd, decide_true, decide_false, Int.reduceAdd, Int.reduceSub, beq_self_eq_true, Bool.false_eq_true, if_false, if_true, h0, d0, h1, d1, q1, em_lst, emp_ms, emp_f le, len_str q2, ms, px, d60, nt, d30, m2, q, sub_dct hks, ne_emp, emp_f ke, lstQ_dct, len_dct (H.dct hks).1, mk, pf, d61, len_str H.sl, msm, py, dct_dct, se]
          rfl
        | false =>
          refine ⟨t, ht.nm, ?_⟩
          simp only [f_law_with, x_str, x_int, x_var, x_bin, x_cmp, x_bl, x_sub, x_slc, x_call, x_tup, x_lst, x_dct, x_and, x_or, x_not, x_isi, x_bfn, xs_nil, xs_cons, bind_ok, d_val, d_own, d_bor, c_eqi, c_eqs, c_lt, c_le, c_gt, c_ge, bl_val, cell_val, cell_own, cell_lent, cell_bor, vas_nil, vas_cons, va_val, va_own, b_add, b_sub, and_nil, or_nil, q_and, q_or, q_at, q_af, q_ot, q_of, c_ind, c_nind, pu_nil, mg_nil, q_an, q_on, c_nes, c_neb, c_eqb, Bool.not_true, Bool.not_false, q_cons, q_nx, q_ret, q_if, q_tt, q_ff, ss_nil, ss_frz, s_asg, s_ret, out_ok, give_val, give_own, fin_ret, fin_nx, ret_val, ret_own, frz_own, frz_val, frz_bor, List.getD_cons_zero, List.getD_cons_succ, startE, List.map_cons, List.map_nil, List.length_cons, List.length_nil, List.replicate, List.cons_append, List.nil_append, List.getElem?_cons_zero, List.getElem?_cons_succ, List.set_cons_zero, List.set_cons_succ, Nat.reduceSub, Nat.reduceAdd, decide_true, decide_false, Int.reduceAdd, Int.reduceSub, beq_self_eq_true, Bool.false_eq_true, if_false, if_true, h0, d0, h1, d1, q1, em_lst, emp_ms, emp_f le, len_str q2, ms, px, d60, nt, d30, m2, q, sub_dct hks, ne_emp, emp_f ke, d61, len_str H.sl, msm, py, dct_dct, se]
          rfl
    obtain ⟨f, nf, st⟩ := fld
    rw [st]
    obtain ⟨k1, k2, k3, k4⟩ := (H.vv x _ hks).rcd_inv
    refine ⟨_, _, rfl, ?_, ?_, ?_, ?_⟩
    · have z := rk_with (dl := []) (ns := K) rkt (f := f) (rk_name rkt hks) (rk_name rkt hy) (H.dct hks).2
      exact z.mono (by omega)
    · refine .rcd (put_keys k1) (by have := (put_len (ks := ks) (k := f) (v := v)).1; omega) ?_ ?_
      · intro p hp
        rcases mem_put hp with e | hp
        · rw [e]; exact nf
        · exact k3 p hp
      · intro p hp
        rcases mem_put hp with e | hp
        · rw [e]; exact vy.mono (by omega) (Nat.le_refl _)
        · exact (k4 p hp).mono (by omega) (Nat.le_refl _)
    · exact (shw4 ((shw_w (by decide +kernel)).mono (Nat.zero_le _)) (nmT_shw nx) (nf.shw.mono (Nat.zero_le _)) (nmT_shw ny)).mono (by omega)
    · rw [bk4]
      have a := nmT_bk nx
      have a2 := nmT_bk ny
      have b := nm_bk nf
      have c := w_bk (x := "with") (by decide +kernel)
      omega
theorem choice_ok (H : Stt B m K sm) (hk : Held rk (.dct K)) (hs : Held rs (.lst (sm.map D.str))) (cell : Int) : StepOk B m K (callN tab (n + 2) 18 [rk, rs, .val (.int cell)]) := by
  obtain ⟨c0, h0, d0, ec0⟩ := id hk
  obtain ⟨c1, h1, d1, ec1⟩ := id hs
  rw [call_fin tab (n + 1) 18 f_law_choice _ rfl rfl]
  have e0 : startE f_law_choice.N.length [rk, rs, .val (.int cell)] = [c0, c1, .val (.int cell), .no, .no] := by rw [← ec0, ← ec1]; rfl
  rw [e0]
  have d60 := fun (i : Int) => b_fdiv (i := i) (j := 60) ⟨by decide, by decide⟩
  obtain ⟨t, nt, ht⟩ := name5_ok (n := n) (cell.fdiv 60)
  obtain ⟨y, v, py, hy, ny, vy⟩ := H.pick cell
  have msm := fun (i : Int) => b_mod (i := i) (j := (sm.length : Int)) (len_pos H.ne)
  have st : (evSs (callN tab (n + 1)) tab.sub [c0, c1, .val (.int cell), .no, .no] f_law_choice.body).fin = .ok (.own (.lst [.tup [.str "choice", .str t, nmT y], .tup [.str t, v]])) := by
    simp only [f_law_choice, x_str, x_int, x_var, x_bin, x_cmp, x_bl, x_sub, x_slc, x_call, x_tup, x_lst, x_dct, x_and, x_or, x_not, x_isi, x_bfn, xs_nil, xs_cons, bind_ok, d_val, d_own, d_bor, c_eqi, c_eqs, c_lt, c_le, c_gt, c_ge, bl_val, cell_val, cell_own, cell_lent, cell_bor, vas_nil, vas_cons, va_val, va_own, b_add, b_sub, and_nil, or_nil, q_and, q_or, q_at, q_af, q_ot, q_of, c_ind, c_nind, pu_nil, mg_nil, q_an, q_on, c_nes, c_neb, c_eqb, Bool.not_true, Bool.not_false, q_cons, q_nx, q_ret, q_if, q_tt, q_ff, ss_nil, ss_frz, s_asg, s_ret, out_ok, give_val, give_own, fin_ret, fin_nx, ret_val, ret_own, frz_own, frz_val, frz_bor, List.getD_cons_zero, List.getD_cons_succ, startE, List.map_cons, List.map_nil, List.length_cons, List.length_nil, List.replicate, List.cons_append, List.nil_append, List.getElem?_cons_zero, List.getElem?_cons_succ, List.set_cons_zero, List.set_cons_succ, Nat.reduceSub, Nat.reduceAdd, decide_true, decide_false, Int.reduceAdd, Int.reduceSub, beq_self_eq_true, Bool.false_eq_true, if_false, if_true, h0, d0, h1, d1, len_str H.sl, msm, py, d60, nt, sub_dct hy]
    rfl
  rw [st]
  refine ⟨_, _, rfl, ?_, .cho ht.nm (vy.mono (by omega) (Nat.le_refl _)), ?_, ?_⟩
  · exact (rk_choice (dl := []) (ns := K) rkt (rk_name rkt hy)).mono (by omega)
  · exact (shw3 ((shw_w (by decide +kernel)).mono (Nat.zero_le _)) (ht.nm.shw.mono (Nat.zero_le _)) (nmT_shw ny)).mono (by omega)
  · rw [bk3]
    have a2 := nmT_bk ny
    have b := nm_bk ht.nm
    have c := w_bk (x := "choice") (by decide +kernel)
    omega
end
end K05
set_option Elab.async false
set_option linter.all false
set_option maxRecDepth 100000
set_option maxHeartbeats 4000000
set_option autoImplicit false
namespace K05
open PySem Ev L2
theorem comp_keepF {A : Type} {f : A → D} {one : D → Rs (Option D)} {P : A → Prop} : ∀ {its : List A}, (∀ x, x ∈ its → (one (f x) = .ok (some (f x)) ∧ P x) ∨ one (f x) = .ok none) → ∃ l : List A, compL one (its.map f) = .ok (l.map f) ∧ (∀ x, x ∈ l → x ∈ its ∧ P x) ∧ l.length ≤ its.length
  | [], _ => ⟨[], rfl, fun x h => (by cases h), Nat.le_refl _⟩
  | a :: r, h => by
    obtain ⟨l, e1, e2, e3⟩ := comp_keepF (P := P) fun x hx => h x (List.mem_cons_of_mem _ hx)
    rw [List.map_cons]
    unfold compL
    rcases h a List.mem_cons_self with ⟨q, p⟩ | q
    · refine ⟨a :: l, ?_, fun x hx => ?_, ?_⟩
      · rw [q, bind_ok, e1]; rfl
      · rcases List.mem_cons.mp hx with e | hx
        · rw [e]; exact ⟨List.mem_cons_self, p⟩
        · exact ⟨List.mem_cons_of_mem _ (e2 x hx).1, (e2 x hx).2⟩
      · rw [List.length_cons, List.length_cons]; omega
    · refine ⟨l, ?_, fun x hx => ⟨List.mem_cons_of_mem _ (e2 x hx).1, (e2 x hx).2⟩, ?_⟩
      · rw [q, bind_ok, e1]; rfl
      · rw [List.length_cons]; omega
section
variable {B m : Nat} {K : List (Str × D)} {sm : List Str} {rk rs : RV} {n : Nat}
def numT (k : Int) : D := .tup [.str "num", .int k]
def zRow (t : Str) (k : Int) : CRow := (t, "z", numT k)
def yRow (s : Str) : CRow := (s, "y", numT 99)
theorem numT_shw {k : Int} (h : k.natAbs < 10 ^ 29) : Shw 1 (numT k) := shw2 (shw_w (by decide +kernel)) (.of (Nice.int h))
theorem numT_bk {k : Int} : bk (numT k) ≤ 14 := by
  unfold numT
  rw [bk2, bk_int]
  have c := w_bk (x := "num") (by decide +kernel)
  omega
theorem z_bk {x : Str} (h : decide (x.length ≤ 12) = true) (g : lowB x = true) : Shw 0 (.str x) ∧ bk (.str x) ≤ 12 := ⟨shw_w g, w_bk h⟩
/-- what a name is in a case's row -/
def byV (K : List (Str × D)) (x nm : Str) (v w : D) : D := if x = nm then v else w
def goodT (x nm : Str) : D := .tup [.str "record", .lst [.tup [.str "got", nmT x], .tup [.str "by", nmT nm]]]
def gb (v w : D) : List (Str × D) := [(("got" : Str), v), (("by" : Str), w)]
theorem keys_gb {v w : D} : Keys (gb v w) := by
  show (["got", "by"] : List Str).Nodup
  decide +kernel
theorem good_rk {x nm : Str} {v w : D} (h : look K nm = some w) : Rk tab 1 [] (put K x v) (goodT x nm) (.ok (.dct (gb v (byV K x nm v w)))) 2 := by
  have z := rk_record (dl := []) (ns := put K x v) rkt (rows := [("got", nmT x, v), ("by", nmT nm, byV K x nm v w)]) (n1 := 1) (fun p hp => by
    simp only [List.mem_cons, List.not_mem_nil, or_false] at hp
    rcases hp with e | e
    · rw [e]
      exact rk_name rkt (by rw [look_put, if_pos rfl])
    · rw [e]
      refine rk_name rkt ?_
      rw [look_put]
      unfold byV
      by_cases q : x = nm
      · rw [if_pos q, if_pos q]
      · rw [if_neg q, if_neg q, h]) (by show 2 ≤ lim; decide)
  have em : merge [] (gb v (byV K x nm v w)) = gb v (byV K x nm v w) := merge_keys keys_gb
  rw [← em]
  exact z
theorem good_shw {x nm : Str} (hx : NmOk x) (hn : NmOk nm) : Shw 5 (goodT x nm) ∧ bk (goodT x nm) ≤ 200 := by
  have g := z_bk (x := "got") (by decide +kernel) (by decide +kernel)
  have b := z_bk (x := "by") (by decide +kernel) (by decide +kernel)
  have r := z_bk (x := "record") (by decide +kernel) (by decide +kernel)
  have n1 := nmT_bk hx
  have n2 := nmT_bk hn
  constructor
  · exact (shw2 (r.1.mono (Nat.zero_le _)) (Shw.lst (m := 2) fun d hd => by
      simp only [List.mem_cons, List.not_mem_nil, or_false] at hd
      rcases hd with e | e
      · rw [e]; exact shw2 (g.1.mono (Nat.zero_le _)) (nmT_shw hx)
      · rw [e]; exact shw2 (b.1.mono (Nat.zero_le _)) (nmT_shw hn)).1).mono (by omega)
  · unfold goodT
    rw [bk2, bk_lst, bkL_cons, bkL_cons, bkL_nil, bk2, bk2]
    omega
/-- a case's row -/
def CRowOk (p : CRow) : Prop := NmOk p.1 ∧ Shw 5 p.t ∧ bk p.t ≤ 300
theorem case_step (H : Stt B m K sm) {nm s x : Str} {v : D} {pre post : List CRow} (hn : look K nm = some (.tup [.str s, v])) (hx : NmOk x) (hp : ∀ p, p ∈ pre → p.1 ≠ s) (h1 : ∀ p, p ∈ pre → CRowOk p) (h2 : ∀ p, p ∈ post → CRowOk p) (hl : pre.length + post.length ≤ 6) :
    StepOk B m K (.ok (.own (.lst [.tup [.str "case", nmT nm, .lst ((pre ++ (s, x, goodT x nm) :: post).map CRow.t)], .dct (gb v (byV K x nm v (.tup [.str s, v])))]))) := by
  have hz : lim = 16777216 := rfl
  have nn := H.nm nm _ hn
  have vv := H.vv nm _ hn
  obtain ⟨ns, vi⟩ := vv.cho_inv
  have gd := good_shw hx nn
  have len : (pre ++ (s, x, goodT x nm) :: post).length ≤ 7 := by rw [List.length_append, List.length_cons]; omega
  have rows : ∀ p, p ∈ pre ++ (s, x, goodT x nm) :: post → Shw 6 (CRow.t p) ∧ bk (CRow.t p) ≤ 300 := fun p hp => by
    rcases List.mem_append.mp hp with h | h
    · exact ⟨(h1 p h).2.1.mono (by omega), (h1 p h).2.2⟩
    · rcases List.mem_cons.mp h with e | h
      · rw [e]
        refine ⟨shw3 (ns.shw.mono (Nat.zero_le _)) (hx.shw.mono (Nat.zero_le _)) gd.1, ?_⟩
        unfold CRow.t
        rw [bk3]
        have a := nm_bk ns
        have b := nm_bk hx
        have c := gd.2
        show bk (.str s) + bk (.str x) + bk (goodT x nm) + 3 ≤ 300
        omega
      · exact ⟨(h2 p h).2.1.mono (by omega), (h2 p h).2.2⟩
  have cw := z_bk (x := "case") (by decide +kernel) (by decide +kernel)
  refine ⟨_, _, rfl, ?_, ?_, ?_, ?_⟩
  · exact (rk_case (dl := []) (ns := K) rkt (rk_name rkt hn) hp (good_rk hn) H.len (by omega)).mono (by omega)
  · refine .rcd keys_gb (by have := H.lo; show 2 ≤ B + 1; omega) ?_ ?_
    · intro p hp
      unfold gb at hp
      simp only [List.mem_cons, List.not_mem_nil, or_false] at hp
      rcases hp with e | e <;> rw [e]
      · exact NmOk.lit (x := "got") (by decide +kernel)
      · exact NmOk.lit (x := "by") (by decide +kernel)
    · intro p hp
      unfold gb at hp
      simp only [List.mem_cons, List.not_mem_nil, or_false] at hp
      rcases hp with e | e <;> rw [e]
      · exact vi.mono (by omega) (Nat.le_refl _)
      · show VV (B + 1) m (byV K x nm v _)
        unfold byV
        split
        · exact vi.mono (by omega) (Nat.le_refl _)
        · exact vv.mono (by omega) (Nat.le_refl _)
  · exact shw3 (cw.1.mono (Nat.zero_le _)) ((nmT_shw nn).mono (by omega)) (Shw.lst (m := 6) fun d hd => by
      obtain ⟨p, hp', e⟩ := List.mem_map.mp hd
      rw [← e]
      exact (rows p hp').1).1
  · have z := bkL_le (M := 300) (xs := (pre ++ (s, x, goodT x nm) :: post).map CRow.t) fun d hd => by
      obtain ⟨p, hp', e⟩ := List.mem_map.mp hd
      rw [← e]
      exact (rows p hp').2
    rw [List.length_map] at z
    rw [bk3, bk_lst]
    have b := nmT_bk nn
    have c := cw.2
    omega
theorem case_ok (H : Stt B m K sm) (hk : Held rk (.dct K)) (hs : Held rs (.lst (sm.map D.str))) (cell : Int) : StepOk B m K (callN tab (n + 3) 19 [rk, rs, .val (.int cell)]) := by
  obtain ⟨c0, h0, d0, ec0⟩ := id hk
  obtain ⟨c1, h1, d1, ec1⟩ := id hs
  rw [call_fin tab (n + 2) 19 f_law_case _ rfl rfl]
  have e0 : startE f_law_case.N.length [rk, rs, .val (.int cell)] = [c0, c1, .val (.int cell), .no, .no, .no, .no, .no, .no, .no, .no, .no, .no] := by rw [← ec0, ← ec1]; rfl
  rw [e0]
  have ro := choice_ok (n := n) H hk hs cell
  have hz : lim = 16777216 := rfl
  have hzi : (lim : Int) = 16777216 := rfl
  have d60 := fun (i : Int) => b_fdiv (i := i) (j := 60) ⟨by decide, by decide⟩
  have d31 := fun (i : Int) => b_fdiv (i := i) (j := 31) ⟨by decide, by decide⟩
  have d62 := fun (i : Int) => b_fdiv (i := i) (j := 62) ⟨by decide, by decide⟩
  have d17 := fun (i : Int) => b_fdiv (i := i) (j := 17) ⟨by decide, by decide⟩
  have m2 := fun (i : Int) => b_mod (i := i) (j := 2) (by decide)
  have m4 := fun (i : Int) => b_mod (i := i) (j := 4) (by decide)
  obtain ⟨_, l, q1, q2, q3⟩ := of_ok (n := n + 1) hk hs H.sl H.ms B m H.vv
  have q1 : callN tab (n + 2) 14 [rk, rs, .val (.str "choice")] = .ok (.own (.lst (l.map D.str))) := q1
  by_cases le : l = []
  · obtain ⟨t0, v0, er, rest⟩ := ro
    have st : (evSs (callN tab (n + 2)) tab.sub [c0, c1, .val (.int cell), .no, .no, .no, .no, .no, .no, .no, .no, .no, .no] f_law_case.body).fin = .ok (.own (.lst [t0, v0])) := by
      simp only [f_law_case, x_str, x_int, x_var, x_bin, x_cmp, x_bl, x_sub, x_slc, x_call, x_tup, x_lst, x_dct, x_and, x_or, x_not, x_isi, x_bfn, xs_nil, xs_cons, bind_ok, d_val, d_own, d_bor, c_eqi, c_eqs, c_lt, c_le, c_gt, c_ge, bl_val, cell_val, cell_own, cell_lent, cell_bor, vas_nil, vas_cons, va_val, va_own, b_add, b_sub, and_nil, or_nil, q_and, q_or, q_at, q_af, q_ot, q_of, c_ind, c_nind, pu_nil, mg_nil, q_an, q_on, c_nes, c_neb, c_eqb, Bool.not_true, Bool.not_false, q_cons, q_nx, q_ret, q_if, q_tt, q_ff, ss_nil, ss_frz, s_asg, s_ret, out_ok, give_val, give_own, fin_ret, fin_nx, ret_val, ret_own, frz_own, frz_val, frz_bor, List.getD_cons_zero, List.getD_cons_succ, startE, List.map_cons, List.map_nil, List.length_cons, List.length_nil, List.replicate, List.cons_append, List.nil_append, List.getElem?_cons_zero, List.getElem?_cons_succ, List.set_cons_zero, List.set_cons_succ, Nat.reduceSub, Nat.reduceAdd, decide_true, decide_false, Int.reduceAdd, Int.reduceSub, beq_self_eq_true, Bool.false_eq_true, if_false, if_true, h0, h1, q1, em_lst, emp_ms, emp_t le, er]
    rw [st]
    exact ⟨_, _, rfl, rest⟩
  · obtain ⟨nm, hnm, px⟩ := pick_str le cell
    obtain ⟨s, v, hn⟩ := q3 nm hnm
    obtain ⟨x, nt, hx⟩ := name5_ok (n := n + 1) (cell.fdiv 60)
    have nt : callN tab (n + 2) 12 [.val (.int (cell.fdiv 60))] = .ok (.val (.str x)) := nt
    have ms := fun (i : Int) => b_mod (i := i) (j := (l.length : Int)) (len_pos le)
    obtain ⟨z, hz0⟩ : ∃ z : Int, z = (cell.fdiv 31).fmod 4 := ⟨_, rfl⟩
    have z01 : 0 ≤ z ∧ z ≤ 3 := by
      obtain ⟨z1, z2⟩ := fmod_range (a := cell.fdiv 31) (m := 4) (by decide)
      omega
    obtain ⟨z0, z1⟩ := z01
    obtain ⟨V, hV⟩ : ∃ V, V = gb v (byV K x nm v (.tup [.str s, v])) := ⟨_, rfl⟩
    obtain ⟨G, hG⟩ : ∃ G : D, G = .tup [.str s, .str x, .tup [.str "record", .lst [.tup [.str "got", .tup [.str "name", .str x]], .tup [.str "by", .tup [.str "name", .str nm]]]]] := ⟨_, rfl⟩
    have hG2 : CRow.t (s, x, goodT x nm) = G := hG.symm
    obtain ⟨LS, hLS⟩ : ∃ LS, LS = D.lst (l.map D.str) := ⟨_, rfl⟩
    have pu : pairUp [.str "got", v, .str "by", .tup [.str s, v]] = .ok (gb v (.tup [.str s, v])) := rfl
    have mg : merge [] (gb v (.tup [.str s, v])) = gb v (.tup [.str s, v]) := merge_keys keys_gb
    have ez : evSs (callN tab (n + 2)) tab.sub [c0, c1, .val (.int cell), .no, .no, .no, .no, .no, .no, .no, .no, .no, .no] f_law_case.body = runSs (callN tab (n + 2)) tab.sub (evS (callN tab (n + 2)) tab.sub [c0, c1, .val (.int cell), .own LS, .val (.str nm), .val (.str x), .val G, .own (.dct V), .own (.lst []), .no, .no, .no, .no] (.forr [9] (.range (.bin .mod (.bin .fdiv (.var 2) (.cint 31)) (.cint 4))) b_law_case_0)) r_law_case_0 := by
      by_cases q : x = nm
      · have se : evS (callN tab (n + 2)) tab.sub [c0, c1, .val (.int cell), .own LS, .val (.str nm), .val (.str x), .val G, .own (.dct (gb v (.tup [.str s, v]))), .no, .no, .no, .no, .no] (.setI 7 (.cstr ("by" : Str)) (.sub (.sub (.var 0) (.var 4)) (.cint 1))) = .nx [c0, c1, .val (.int cell), .own LS, .val (.str nm), .val (.str x), .val G, .own (.dct V), .no, .no, .no, .no, .no] := by
          rw [s_setO (d := .dct (gb v (.tup [.str s, v]))) rfl]
          simp only [x_str, x_int, x_var, x_bin, x_cmp, x_bl, x_sub, x_slc, x_call, x_tup, x_lst, x_dct, x_and, x_or, x_not, x_isi, x_bfn, xs_nil, xs_cons, bind_ok, d_val, d_own, d_bor, c_eqi, c_eqs, c_lt, c_le, c_gt, c_ge, bl_val, cell_val, cell_own, cell_lent, cell_bor, vas_nil, vas_cons, va_val, va_own, b_add, b_sub, and_nil, or_nil, q_and, q_or, q_at, q_af, q_ot, q_of, c_ind, c_nind, pu_nil, mg_nil, q_an, q_on, c_nes, c_neb, c_eqb, Bool.not_true, Bool.not_false, startE, List.map_cons, List.map_nil, List.length_cons, List.length_nil, List.replicate, List.cons_append, List.nil_append, List.getElem?_cons_zero, List.getElem?_cons_succ, List.set_cons_zero, List.set_cons_succ, Nat.reduceSub, Nat.reduceAdd, decide_true, decide_false, Int.reduceAdd, Int.reduceSub, beq_self_eq_true, Bool.false_eq_true, if_false, if_true, h0, d0, sub_dct hn, s2_1]
          have ep : put (gb v (.tup [.str s, v])) "by" v = V := by
            have hh : has (gb v (.tup [.str s, v])) "by" = true := has_iff.mpr (by unfold gb; simp)
            have n1 : ¬ (("got" : Str) = "by") := by decide +kernel
            unfold put
            rw [if_pos hh, hV]
            unfold byV gb
            rw [if_pos q, List.map_cons, List.map_cons, List.map_nil, if_neg n1, if_pos rfl]
          rw [out_ok, setO_dct rfl (by rw [hz]; show 2 < 16777216; decide), ep]
          rfl
        have dd : decide (x = nm) = true := decide_eq_true q
        subst hG hLS
        simp only [f_law_case, x_str, x_int, x_var, x_bin, x_cmp, x_bl, x_sub, x_slc, x_call, x_tup, x_lst, x_dct, x_and, x_or, x_not, x_isi, x_bfn, xs_nil, xs_cons, bind_ok, d_val, d_own, d_bor, c_eqi, c_eqs, c_lt, c_le, c_gt, c_ge, bl_val, cell_val, cell_own, cell_lent, cell_bor, vas_nil, vas_cons, va_val, va_own, b_add, b_sub, and_nil, or_nil, q_and, q_or, q_at, q_af, q_ot, q_of, c_ind, c_nind, pu_nil, mg_nil, q_an, q_on, c_nes, c_neb, c_eqb, Bool.not_true, Bool.not_false, q_cons, q_nx, q_ret, q_if, q_tt, q_ff, ss_nil, ss_frz, s_asg, s_ret, out_ok, give_val, give_own, fin_ret, fin_nx, ret_val, ret_own, frz_own, frz_val, frz_bor, List.getD_cons_zero, List.getD_cons_succ, startE, List.map_cons, List.map_nil, List.length_cons, List.length_nil, List.replicate, List.cons_append, List.nil_append, List.getElem?_cons_zero, List.getElem?_cons_succ, List.set_cons_zero, List.set_cons_succ, Nat.reduceSub, Nat.reduceAdd, decide_true, decide_false, Int.reduceAdd, Int.reduceSub, beq_self_eq_true, Bool.false_eq_true, if_false, if_true, h0, d0, h1, d1, q1, em_lst, emp_ms, emp_f le, len_str q2, ms, px, d60, nt, sub_dct hn, s2_0, s2_1, pu, mg, dd, se]
      · have eV : V = (gb v (.tup [.str s, v])) := by rw [hV]; unfold byV; rw [if_neg q]
        have dd : decide (x = nm) = false := decide_eq_false q
        rw [eV]
        subst hG hLS
        simp only [f_law_case, x_str, x_int, x_var, x_bin, x_cmp, x_bl, x_sub, x_slc, x_call, x_tup, x_lst, x_dct, x_and, x_or, x_not, x_isi, x_bfn, xs_nil, xs_cons, bind_ok, d_val, d_own, d_bor, c_eqi, c_eqs, c_lt, c_le, c_gt, c_ge, bl_val, cell_val, cell_own, cell_lent, cell_bor, vas_nil, vas_cons, va_val, va_own, b_add, b_sub, and_nil, or_nil, q_and, q_or, q_at, q_af, q_ot, q_of, c_ind, c_nind, pu_nil, mg_nil, q_an, q_on, c_nes, c_neb, c_eqb, Bool.not_true, Bool.not_false, q_cons, q_nx, q_ret, q_if, q_tt, q_ff, ss_nil, ss_frz, s_asg, s_ret, out_ok, give_val, give_own, fin_ret, fin_nx, ret_val, ret_own, frz_own, frz_val, frz_bor, List.getD_cons_zero, List.getD_cons_succ, startE, List.map_cons, List.map_nil, List.length_cons, List.length_nil, List.replicate, List.cons_append, List.nil_append, List.getElem?_cons_zero, List.getElem?_cons_succ, List.set_cons_zero, List.set_cons_succ, Nat.reduceSub, Nat.reduceAdd, decide_true, decide_false, Int.reduceAdd, Int.reduceSub, beq_self_eq_true, Bool.false_eq_true, if_false, if_true, h0, d0, h1, d1, q1, em_lst, emp_ms, emp_f le, len_str q2, ms, px, d60, nt, sub_dct hn, s2_0, s2_1, pu, mg, dd]
    rw [ez]
    have it1 : evIt (callN tab (n + 2)) tab.sub [c0, c1, .val (.int cell), .own LS, .val (.str nm), .val (.str x), .val G, .own (.dct V), .own (.lst []), .no, .no, .no, .no] (.range (.bin .mod (.bin .fdiv (.var 2) (.cint 31)) (.cint 4))) = .ok ((List.range z.toNat).map fun (i : Nat) => D.int i) := by
      rw [i_range]
      simp only [x_str, x_int, x_var, x_bin, x_cmp, x_bl, x_sub, x_slc, x_call, x_tup, x_lst, x_dct, x_and, x_or, x_not, x_isi, x_bfn, xs_nil, xs_cons, bind_ok, d_val, d_own, d_bor, c_eqi, c_eqs, c_lt, c_le, c_gt, c_ge, bl_val, cell_val, cell_own, cell_lent, cell_bor, vas_nil, vas_cons, va_val, va_own, b_add, b_sub, and_nil, or_nil, q_and, q_or, q_at, q_af, q_ot, q_of, c_ind, c_nind, pu_nil, mg_nil, q_an, q_on, c_nes, c_neb, c_eqb, Bool.not_true, Bool.not_false, startE, List.map_cons, List.map_nil, List.length_cons, List.length_nil, List.replicate, List.cons_append, List.nil_append, List.getElem?_cons_zero, List.getElem?_cons_succ, List.set_cons_zero, List.set_cons_succ, Nat.reduceSub, Nat.reduceAdd, decide_true, decide_false, Int.reduceAdd, Int.reduceSub, beq_self_eq_true, Bool.false_eq_true, if_false, if_true, d31, m4, ← hz0]
      exact r_of (by omega) (by omega)
    obtain ⟨e', k1, k2⟩ := for_inv (tg := [9]) (b := b_law_case_0) it1 (fun i e => ∃ (rows : List CRow) (c9 : Cel), e = [c0, c1, .val (.int cell), .own LS, .val (.str nm), .val (.str x), .val G, .own (.dct V), .own (.lst (rows.map CRow.t)), c9, .no, .no, .no] ∧ rows.length = i ∧ ∀ p, p ∈ rows → CRowOk p)
      ⟨[], .no, rfl, rfl, fun p h => by cases h⟩ (fun i d e1 hd ⟨rows, c9, e0, hl, hp⟩ => by
        obtain ⟨ed, hi⟩ := get_range hd
        subst ed e0
        obtain ⟨w1, mu1⟩ : ∃ w1, binop .mul (.int 7) (.int (i : Int)) = .ok (.val (.int w1)) := ⟨_, b_mul (small_n (by omega) (by omega))⟩
        obtain ⟨t, nt2, ht⟩ := name5_ok (n := n + 1) (cell.fdiv 62 + w1)
        have nt2 : callN tab (n + 2) 12 [.val (.int (cell.fdiv 62 + w1))] = .ok (.val (.str t)) := nt2
        have al : (rows.map CRow.t).length < lim := by rw [List.length_map]; omega
        have ap : evS (callN tab (n + 2)) tab.sub [c0, c1, .val (.int cell), .own LS, .val (.str nm), .val (.str x), .val G, .own (.dct V), .own (.lst (rows.map CRow.t)), .val (.int (i : Int)), .no, .no, .no] (.app 8 (.tup (.cons (.call 12 (.cons (.bin .add (.bin .fdiv (.var 2) (.cint 62)) (.bin .mul (.cint 7) (.var 9))) .nil)) (.cons (.cstr ("z" : Str)) (.cons (.tup (.cons (.cstr ("num" : Str)) (.cons (.var 9) .nil))) .nil))))) = .nx [c0, c1, .val (.int cell), .own LS, .val (.str nm), .val (.str x), .val G, .own (.dct V), .own (.lst ((rows ++ [zRow t (i : Int)]).map CRow.t)), .val (.int (i : Int)), .no, .no, .no] := by
          rw [s_appO (xs := rows.map CRow.t) rfl]
          simp only [x_str, x_int, x_var, x_bin, x_cmp, x_bl, x_sub, x_slc, x_call, x_tup, x_lst, x_dct, x_and, x_or, x_not, x_isi, x_bfn, xs_nil, xs_cons, bind_ok, d_val, d_own, d_bor, c_eqi, c_eqs, c_lt, c_le, c_gt, c_ge, bl_val, cell_val, cell_own, cell_lent, cell_bor, vas_nil, vas_cons, va_val, va_own, b_add, b_sub, and_nil, or_nil, q_and, q_or, q_at, q_af, q_ot, q_of, c_ind, c_nind, pu_nil, mg_nil, q_an, q_on, c_nes, c_neb, c_eqb, Bool.not_true, Bool.not_false, startE, List.map_cons, List.map_nil, List.length_cons, List.length_nil, List.replicate, List.cons_append, List.nil_append, List.getElem?_cons_zero, List.getElem?_cons_succ, List.set_cons_zero, List.set_cons_succ, Nat.reduceSub, Nat.reduceAdd, decide_true, decide_false, Int.reduceAdd, Int.reduceSub, beq_self_eq_true, Bool.false_eq_true, if_false, if_true, d62, mu1, nt2]
          rw [out_ok, if_pos al, List.map_append]
          rfl
        refine ⟨_, [c0, c1, .val (.int cell), .own LS, .val (.str nm), .val (.str x), .val G, .own (.dct V), .own (.lst ((rows ++ [zRow t (i : Int)]).map CRow.t)), .val (.int (i : Int)), .no, .no, .no], set_one, ?_, rows ++ [zRow t (i : Int)], .val (.int (i : Int)), rfl, by rw [List.length_append, hl]; rfl, fun p h => ?_⟩
        · show evSs _ _ [c0, c1, .val (.int cell), .own LS, .val (.str nm), .val (.str x), .val G, .own (.dct V), .own (.lst (rows.map CRow.t)), .val (.int (i : Int)), .no, .no, .no] b_law_case_0 = _
          unfold b_law_case_0
          rw [q_cons, ap]
          simp only [q_cons, q_nx, q_ret, q_if, q_tt, q_ff, ss_nil, ss_frz, s_asg, s_ret, out_ok, give_val, give_own, fin_ret, fin_nx, ret_val, ret_own, frz_own, frz_val, frz_bor, List.getD_cons_zero, List.getD_cons_succ]
        · rcases List.mem_append.mp h with h | h
          · exact hp p h
          · have e : p = zRow t (i : Int) := by simpa using h
            rw [e]
            have zz := z_bk (x := "z") (by decide +kernel) (by decide +kernel)
            have ni : ((i : Int)).natAbs < 10 ^ 29 := by
              have : ((i : Int)).natAbs ≤ 3 := by omega
              exact Nat.lt_of_le_of_lt this (by decide)
            refine ⟨ht.nm, (shw3 (ht.nm.shw.mono (Nat.zero_le _)) (zz.1.mono (Nat.zero_le _)) (numT_shw ni)).mono (by omega), ?_⟩
            show bk (.tup [.str t, .str "z", numT (i : Int)]) ≤ 300
            rw [bk3]
            have a := nm_bk ht.nm
            have b := numT_bk (k := (i : Int))
            omega)
    obtain ⟨rows, c9, e0, hl, hp⟩ := k2
    subst e0
    rw [List.length_map, List.length_range] at hl
    have k1 : evS (callN tab (n + 2)) tab.sub [c0, c1, .val (.int cell), .own LS, .val (.str nm), .val (.str x), .val G, .own (.dct V), .own (.lst []), .no, .no, .no, .no] (.forr [9] (.range (.bin .mod (.bin .fdiv (.var 2) (.cint 31)) (.cint 4))) b_law_case_0) = .nx [c0, c1, .val (.int cell), .own LS, .val (.str nm), .val (.str x), .val G, .own (.dct V), .own (.lst (rows.map CRow.t)), c9, .no, .no, .no] := by
      rw [k1]
      cases c0 <;> cases c1 <;> rfl
    rw [k1, q_nx]
    have hrl : (rows.map CRow.t).length ≤ lim := by rw [List.length_map]; omega
    -- the rows of other shapes
    have comp : ∃ ah : List CRow, evX (callN tab (n + 2)) tab.sub [c0, c1, .val (.int cell), .own LS, .val (.str nm), .val (.str x), .val G, .own (.dct V), .own (.lst (rows.map CRow.t)), c9, .no, .no, .no] (.comp (.var 12) [12] (.ex (.var 8)) (.cmp .ne (.sub (.var 12) (.cint 0)) (.sub (.sub (.var 0) (.var 4)) (.cint 0)))) = .ok (.own (.lst (ah.map CRow.t))) ∧ (∀ p, p ∈ ah → p ∈ rows ∧ p.1 ≠ s) ∧ ah.length ≤ rows.length := by
      rw [x_comp, it_lst rfl cell_own rfl hrl, bind_ok, if_pos hrl]
      obtain ⟨ah, a1, a2, a3⟩ := comp_keepF (f := CRow.t) (its := rows) (P := fun p => p.1 ≠ s) (one := fun d => ((setT [12] d (wipeS [12] [c0, c1, .val (.int cell), .own LS, .val (.str nm), .val (.str x), .val G, .own (.dct V), .own (.lst (rows.map CRow.t)), c9, .no, .no, .no])).bind fun e' =>
        ((evX (callN tab (n + 2)) tab.sub e' (.cmp .ne (.sub (.var 12) (.cint 0)) (.sub (.sub (.var 0) (.var 4)) (.cint 0)))).bind asBl).bind fun b => if b = true then (evX (callN tab (n + 2)) tab.sub e' (.var 12)).bind fun y => (asVal y).bind fun d => .ok (some d) else .ok none).noX) (fun p hp => by
          have hs : List.set (wipeS [12] [c0, c1, .val (.int cell), .own LS, .val (.str nm), .val (.str x), .val G, .own (.dct V), .own (.lst (rows.map CRow.t)), c9, .no, .no, .no]) 12 (.val p.t) = [c0, c1, .val (.int cell), .own LS, .val (.str nm), .val (.str x), .val G, .own (.dct V), .own (.lst (rows.map CRow.t)), c9, .no, .no, .val (.tup [.str p.1, .str p.2.1, p.2.2])] := rfl
          rw [set_one, bind_ok, hs]
          by_cases q : p.1 = s
          · refine .inr ?_
            have dd : decide (p.1 = s) = true := decide_eq_true q
            simp only [x_str, x_int, x_var, x_bin, x_cmp, x_bl, x_sub, x_slc, x_call, x_tup, x_lst, x_dct, x_and, x_or, x_not, x_isi, x_bfn, xs_nil, xs_cons, bind_ok, d_val, d_own, d_bor, c_eqi, c_eqs, c_lt, c_le, c_gt, c_ge, bl_val, cell_val, cell_own, cell_lent, cell_bor, vas_nil, vas_cons, va_val, va_own, b_add, b_sub, and_nil, or_nil, q_and, q_or, q_at, q_af, q_ot, q_of, c_ind, c_nind, pu_nil, mg_nil, q_an, q_on, c_nes, c_neb, c_eqb, Bool.not_true, Bool.not_false, q_cons, q_nx, q_ret, q_if, q_tt, q_ff, ss_nil, ss_frz, s_asg, s_ret, out_ok, give_val, give_own, fin_ret, fin_nx, ret_val, ret_own, frz_own, frz_val, frz_bor, List.getD_cons_zero, List.getD_cons_succ, startE, List.map_cons, List.map_nil, List.length_cons, List.length_nil, List.replicate, List.cons_append, List.nil_append, List.getElem?_cons_zero, List.getElem?_cons_succ, List.set_cons_zero, List.set_cons_succ, Nat.reduceSub, Nat.reduceAdd, decide_true, decide_false, Int.reduceAdd, Int.reduceSub, beq_self_eq_true, Bool.false_eq_true, if_false, if_true, h0, d0, sub_dct hn, s2_0, s3_0, dd, noX_ok]
          · refine .inl ⟨?_, q⟩
            have dd : decide (p.1 = s) = false := decide_eq_false q
            simp only [x_str, x_int, x_var, x_bin, x_cmp, x_bl, x_sub, x_slc, x_call, x_tup, x_lst, x_dct, x_and, x_or, x_not, x_isi, x_bfn, xs_nil, xs_cons, bind_ok, d_val, d_own, d_bor, c_eqi, c_eqs, c_lt, c_le, c_gt, c_ge, bl_val, cell_val, cell_own, cell_lent, cell_bor, vas_nil, vas_cons, va_val, va_own, b_add, b_sub, and_nil, or_nil, q_and, q_or, q_at, q_af, q_ot, q_of, c_ind, c_nind, pu_nil, mg_nil, q_an, q_on, c_nes, c_neb, c_eqb, Bool.not_true, Bool.not_false, q_cons, q_nx, q_ret, q_if, q_tt, q_ff, ss_nil, ss_frz, s_asg, s_ret, out_ok, give_val, give_own, fin_ret, fin_nx, ret_val, ret_own, frz_own, frz_val, frz_bor, List.getD_cons_zero, List.getD_cons_succ, startE, List.map_cons, List.map_nil, List.length_cons, List.length_nil, List.replicate, List.cons_append, List.nil_append, List.getElem?_cons_zero, List.getElem?_cons_succ, List.set_cons_zero, List.set_cons_succ, Nat.reduceSub, Nat.reduceAdd, decide_true, decide_false, Int.reduceAdd, Int.reduceSub, beq_self_eq_true, Bool.false_eq_true, if_false, if_true, h0, d0, sub_dct hn, s2_0, s3_0, dd, noX_ok]
            rfl)
      rw [a1]
      exact ⟨ah, rfl, a2, a3⟩
    obtain ⟨ah, a1, a2, a3⟩ := comp
    cases q : ((cell.fdiv 17).fmod 2 == 0) with
    | true =>
      have ad : binop .add (.lst (ah.map CRow.t)) (.lst [G]) = .ok (.own (.lst ((ah ++ [(s, x, goodT x nm)]).map CRow.t))) := by
        rw [List.map_append, List.map_cons, List.map_nil, hG2]
        exact if_pos (by rw [List.length_map]; show _ + 1 ≤ lim; omega)
      have fin : (evSs (callN tab (n + 2)) tab.sub [c0, c1, .val (.int cell), .own LS, .val (.str nm), .val (.str x), .val G, .own (.dct V), .own (.lst (rows.map CRow.t)), c9, .no, .no, .no] r_law_case_0).fin = .ok (.own (.lst [.tup [.str "case", nmT nm, .lst ((ah ++ [(s, x, goodT x nm)]).map CRow.t)], .dct V])) := by
        simp only [r_law_case_0, x_str, x_int, x_var, x_bin, x_cmp, x_bl, x_sub, x_slc, x_call, x_tup, x_lst, x_dct, x_and, x_or, x_not, x_isi, x_bfn, xs_nil, xs_cons, bind_ok, d_val, d_own, d_bor, c_eqi, c_eqs, c_lt, c_le, c_gt, c_ge, bl_val, cell_val, cell_own, cell_lent, cell_bor, vas_nil, vas_cons, va_val, va_own, b_add, b_sub, and_nil, or_nil, q_and, q_or, q_at, q_af, q_ot, q_of, c_ind, c_nind, pu_nil, mg_nil, q_an, q_on, c_nes, c_neb, c_eqb, Bool.not_true, Bool.not_false, q_cons, q_nx, q_ret, q_if, q_tt, q_ff, ss_nil, ss_frz, s_asg, s_ret, out_ok, give_val, give_own, fin_ret, fin_nx, ret_val, ret_own, frz_own, frz_val, frz_bor, List.getD_cons_zero, List.getD_cons_succ, startE, List.map_cons, List.map_nil, List.length_cons, List.length_nil, List.replicate, List.cons_append, List.nil_append, List.getElem?_cons_zero, List.getElem?_cons_succ, List.set_cons_zero, List.set_cons_succ, Nat.reduceSub, Nat.reduceAdd, decide_true, decide_false, Int.reduceAdd, Int.reduceSub, beq_self_eq_true, Bool.false_eq_true, if_false, if_true, h0, d0, a1, sub_dct hn, s2_0, d17, m2, q, ad]
        rfl
      rw [fin, hV]
      exact case_step H (pre := ah) (post := []) hn hx.nm (fun p h => (a2 p h).2) (fun p h => hp p (a2 p h).1) (fun p h => by cases h) (by show ah.length + 0 ≤ 6; omega)
    | false =>
      have ad : binop .add (.lst [G, CRow.t (yRow s)]) (.lst (rows.map CRow.t)) = .ok (.own (.lst (((s, x, goodT x nm) :: yRow s :: rows).map CRow.t))) := by
        rw [List.map_cons, List.map_cons, hG2]
        exact if_pos (by rw [List.length_map]; show 2 + _ ≤ lim; omega)
      have fin : (evSs (callN tab (n + 2)) tab.sub [c0, c1, .val (.int cell), .own LS, .val (.str nm), .val (.str x), .val G, .own (.dct V), .own (.lst (rows.map CRow.t)), c9, .no, .no, .no] r_law_case_0).fin = .ok (.own (.lst [.tup [.str "case", nmT nm, .lst (((s, x, goodT x nm) :: yRow s :: rows).map CRow.t)], .dct V])) := by
        have ad : binop .add (.lst [G, .tup [.str s, .str "y", .tup [.str "num", .int 99]]]) (.lst (rows.map CRow.t)) = .ok (.own (.lst (((s, x, goodT x nm) :: yRow s :: rows).map CRow.t))) := ad
        simp only [r_law_case_0, x_str, x_int, x_var, x_bin, x_cmp, x_bl, x_sub, x_slc, x_call, x_tup, x_lst, x_dct, x_and, x_or, x_not, x_isi, x_bfn, xs_nil, xs_cons, bind_ok, d_val, d_own, d_bor, c_eqi, c_eqs, c_lt, c_le, c_gt, c_ge, bl_val, cell_val, cell_own, cell_lent, cell_bor, vas_nil, vas_cons, va_val, va_own, b_add, b_sub, and_nil, or_nil, q_and, q_or, q_at, q_af, q_ot, q_of, c_ind, c_nind, pu_nil, mg_nil, q_an, q_on, c_nes, c_neb, c_eqb, Bool.not_true, Bool.not_false, q_cons, q_nx, q_ret, q_if, q_tt, q_ff, ss_nil, ss_frz, s_asg, s_ret, out_ok, give_val, give_own, fin_ret, fin_nx, ret_val, ret_own, frz_own, frz_val, frz_bor, List.getD_cons_zero, List.getD_cons_succ, startE, List.map_cons, List.map_nil, List.length_cons, List.length_nil, List.replicate, List.cons_append, List.nil_append, List.getElem?_cons_zero, List.getElem?_cons_succ, List.set_cons_zero, List.set_cons_succ, Nat.reduceSub, Nat.reduceAdd, decide_true, decide_false, Int.reduceAdd, Int.reduceSub, beq_self_eq_true, Bool.false_eq_true, if_false, if_true, h0, d0, a1, sub_dct hn, s2_0, d17, m2, q, ad]
        rfl
      rw [fin, hV]
      have ns := ((H.vv nm _ hn).cho_inv).1
      exact case_step H (pre := []) (post := yRow s :: rows) hn hx.nm (fun p h => by cases h) (fun p h => by cases h) (fun p h => by
        rcases List.mem_cons.mp h with e | h
        · rw [e]
          have zz := z_bk (x := "y") (by decide +kernel) (by decide +kernel)
          refine ⟨ns, (shw3 (ns.shw.mono (Nat.zero_le _)) (zz.1.mono (Nat.zero_le _)) (numT_shw (by decide))).mono (by omega), ?_⟩
          show bk (.tup [.str s, .str "y", numT 99]) ≤ 300
          rw [bk3]
          have a := nm_bk ns
          have b := numT_bk (k := 99)
          omega
        · exact hp p h) (by rw [List.length_nil, List.length_cons]; omega)
end
end K05
set_option Elab.async false
set_option linter.all false
set_option maxRecDepth 100000
set_option maxHeartbeats 4000000
set_option autoImplicit false
namespace K05
open PySem Ev L2
section
variable {B m : Nat} {K : List (Str × D)} {sm : List Str} {rk rs : RV} {n : Nat}
theorem less_rk (i j : Int) (hj : smallI j = true) : Rk tab 1 [] K (.tup [.str "less", numT i, numT j]) (.ok (.bl (decide (i < j)))) 3 := by
  have z := rk_sum (dl := []) (ns := K) rkt (w := "less") (.inr (.inr (.inr rfl))) (rk_num rkt (.int i)) (rk_num rkt (.int j)) hj
  have e : sumR "less" i j = .ok (.bl (decide (i < j))) := if_pos rfl
  rw [e] at z
  exact z
theorem less_sz {i j : Int} (hi : i.natAbs < 10 ^ 29) (hj : j.natAbs < 10 ^ 29) : Shw 2 (.tup [.str "less", numT i, numT j]) ∧ bk (.tup [.str "less", numT i, numT j]) ≤ 60 := by
  have w := z_bk (x := "less") (by decide +kernel) (by decide +kernel)
  refine ⟨shw3 (w.1.mono (Nat.zero_le _)) (numT_shw hi) (numT_shw hj), ?_⟩
  rw [bk3]
  have a := numT_bk (k := i)
  have b := numT_bk (k := j)
  omega
theorem if_ok (H : Stt B m K sm) (hk : Held rk (.dct K)) (cell : Int) : StepOk B m K (callN tab (n + 1) 20 [rk, .val (.int cell)]) := by
  obtain ⟨c0, h0, d0, ec0⟩ := id hk
  rw [call_fin tab n 20 f_law_if _ rfl rfl]
  have e0 : startE f_law_if.N.length [rk, .val (.int cell)] = [c0, .val (.int cell), .no, .no, .no, .no, .no] := by rw [← ec0]; rfl
  rw [e0]
  have d60 := fun (i : Int) => b_fdiv (i := i) (j := 60) ⟨by decide, by decide⟩
  have d59 := fun (i : Int) => b_fdiv (i := i) (j := 59) ⟨by decide, by decide⟩
  have m2 := fun (i : Int) => b_mod (i := i) (j := 2) (by decide)
  have kne : K ≠ [] := fun e => by
    have h := H.ne
    cases sm with
    | nil => exact h rfl
    | cons x r =>
      obtain ⟨v, hv⟩ := H.ms x List.mem_cons_self
      rw [e] at hv
      cases hv
  have mk := fun (i : Int) => b_mod (i := i) (j := (K.length : Int)) (dlen_pos kne)
  obtain ⟨x, v, px, hx, _⟩ := key_at kne cell
  obtain ⟨y, w, py, hy, _⟩ := key_at kne (cell.fdiv 60)
  have nx := H.nm x _ hx
  have ny := H.nm y _ hy
  have ln : bfnop .len [.lst (K.map fun kv => D.str kv.1)] = .ok (.val (.int K.length)) := by
    have z := len_lst (ks := K.map fun kv => D.str kv.1) (by rw [List.length_map]; exact Nat.le_of_lt H.len)
    rw [List.length_map] at z
    exact z
  have iw := z_bk (x := "if") (by decide +kernel) (by decide +kernel)
  have a := nmT_bk nx
  have b := nmT_bk ny
  cases q : ((cell.fdiv 59).fmod 2 == 1) with
  | true =>
    have it : bfnop .int1 [.bl true] = .ok (.val (.int 1)) := rfl
    have mu : binop .mul (.int 2) (.int 1) = .ok (.val (.int 2)) := rfl
    have si : subop (.lst [w, v]) (.int 1) = .ok (.val v) := rfl
    have st : (evSs (callN tab n) tab.sub [c0, .val (.int cell), .no, .no, .no, .no, .no] f_law_if.body).fin = .ok (.own (.lst [.tup [.str "if", .tup [.str "less", numT 3, numT 4], nmT x, nmT y], v])) := by
      simp only [f_law_if, x_str, x_int, x_var, x_bin, x_cmp, x_bl, x_sub, x_slc, x_call, x_tup, x_lst, x_dct, x_and, x_or, x_not, x_isi, x_bfn, xs_nil, xs_cons, bind_ok, d_val, d_own, d_bor, c_eqi, c_eqs, c_lt, c_le, c_gt, c_ge, bl_val, cell_val, cell_own, cell_lent, cell_bor, vas_nil, vas_cons, va_val, va_own, b_add, b_sub, and_nil, or_nil, q_and, q_or, q_at, q_af, q_ot, q_of, c_ind, c_nind, pu_nil, mg_nil, q_an, q_on, c_nes, c_neb, c_eqb, Bool.not_true, Bool.not_false, q_cons, q_nx, q_ret, q_if, q_tt, q_ff, ss_nil, ss_frz, s_asg, s_ret, out_ok, give_val, give_own, fin_ret, fin_nx, ret_val, ret_own, frz_own, frz_val, frz_bor, List.getD_cons_zero, List.getD_cons_succ, startE, List.map_cons, List.map_nil, List.length_cons, List.length_nil, List.replicate, List.cons_append, List.nil_append, List.getElem?_cons_zero, List.getElem?_cons_succ, List.set_cons_zero, List.set_cons_succ, Nat.reduceSub, Nat.reduceAdd, decide_true, decide_false, Int.reduceAdd, Int.reduceSub, beq_self_eq_true, Bool.false_eq_true, if_false, if_true, h0, d0, lstQ_dct, ln, mk, px, d60, py, d59, m2, q, it, mu, sub_dct hx, sub_dct hy, si]
      rfl
    rw [st]
    refine ⟨_, _, rfl, ?_, (H.vv x _ hx).mono (by omega) (by omega), ?_, ?_⟩
    · have z := rk_if (dl := []) (ns := K) rkt (a := nmT x) (b := nmT y) (less_rk 3 4 (by decide)) (res := .ok v) (n2 := 1) (by rw [if_pos (by decide)]; exact rk_name rkt hx)
      exact z.mono (by omega)
    · exact (shw4 (iw.1.mono (Nat.zero_le _)) (less_sz (by decide) (by decide)).1 ((nmT_shw nx).mono (by omega)) ((nmT_shw ny).mono (by omega))).mono (by omega)
    · rw [bk4]
      have c := (less_sz (i := 3) (j := 4) (by decide) (by decide)).2
      omega
  | false =>
    have it : bfnop .int1 [.bl false] = .ok (.val (.int 0)) := rfl
    have mu : binop .mul (.int 2) (.int 0) = .ok (.val (.int 0)) := rfl
    have si : subop (.lst [w, v]) (.int 0) = .ok (.val w) := rfl
    have st : (evSs (callN tab n) tab.sub [c0, .val (.int cell), .no, .no, .no, .no, .no] f_law_if.body).fin = .ok (.own (.lst [.tup [.str "if", .tup [.str "less", numT 3, numT 2], nmT x, nmT y], w])) := by
      simp only [f_law_if, x_str, x_int, x_var, x_bin, x_cmp, x_bl, x_sub, x_slc, x_call, x_tup, x_lst, x_dct, x_and, x_or, x_not, x_isi, x_bfn, xs_nil, xs_cons, bind_ok, d_val, d_own, d_bor, c_eqi, c_eqs, c_lt, c_le, c_gt, c_ge, bl_val, cell_val, cell_own, cell_lent, cell_bor, vas_nil, vas_cons, va_val, va_own, b_add, b_sub, and_nil, or_nil, q_and, q_or, q_at, q_af, q_ot, q_of, c_ind, c_nind, pu_nil, mg_nil, q_an, q_on, c_nes, c_neb, c_eqb, Bool.not_true, Bool.not_false, q_cons, q_nx, q_ret, q_if, q_tt, q_ff, ss_nil, ss_frz, s_asg, s_ret, out_ok, give_val, give_own, fin_ret, fin_nx, ret_val, ret_own, frz_own, frz_val, frz_bor, List.getD_cons_zero, List.getD_cons_succ, startE, List.map_cons, List.map_nil, List.length_cons, List.length_nil, List.replicate, List.cons_append, List.nil_append, List.getElem?_cons_zero, List.getElem?_cons_succ, List.set_cons_zero, List.set_cons_succ, Nat.reduceSub, Nat.reduceAdd, decide_true, decide_false, Int.reduceAdd, Int.reduceSub, beq_self_eq_true, Bool.false_eq_true, if_false, if_true, h0, d0, lstQ_dct, ln, mk, px, d60, py, d59, m2, q, it, mu, sub_dct hx, sub_dct hy, si]
      rfl
    rw [st]
    refine ⟨_, _, rfl, ?_, (H.vv y _ hy).mono (by omega) (by omega), ?_, ?_⟩
    · have z := rk_if (dl := []) (ns := K) rkt (a := nmT x) (b := nmT y) (less_rk 3 2 (by decide)) (res := .ok w) (n2 := 1) (by rw [if_neg (by decide)]; exact rk_name rkt hy)
      exact z.mono (by omega)
    · exact (shw4 (iw.1.mono (Nat.zero_le _)) (less_sz (by decide) (by decide)).1 ((nmT_shw nx).mono (by omega)) ((nmT_shw ny).mono (by omega))).mono (by omega)
    · rw [bk4]
      have c := (less_sz (i := 3) (j := 2) (by decide) (by decide)).2
      omega
theorem step_ok (H : Stt B m K sm) (hk : Held rk (.dct K)) (hs : Held rs (.lst (sm.map D.str))) (cell : Int) : StepOk B m K (callN tab (n + 4) 21 [rk, rs, .val (.int cell)]) := by
  obtain ⟨c0, h0, d0, ec0⟩ := id hk
  obtain ⟨c1, h1, d1, ec1⟩ := id hs
  rw [call_fin tab (n + 3) 21 f_law_step _ rfl rfl]
  have e0 : startE f_law_step.N.length [rk, rs, .val (.int cell)] = [c0, c1, .val (.int cell), .no, .no] := by rw [← ec0, ← ec1]; rfl
  rw [e0]
  have d7 := fun (i : Int) => b_fdiv (i := i) (j := 7) ⟨by decide, by decide⟩
  have m7 := fun (i : Int) => b_mod (i := i) (j := 7) (by decide)
  have m2001 := fun (i : Int) => b_mod (i := i) (j := 2001) (by decide)
  obtain ⟨p0, p1⟩ := fmod_range (a := cell) (m := 7) (by decide)
  have hp : cell.fmod 7 = 0 ∨ cell.fmod 7 = 1 ∨ cell.fmod 7 = 2 ∨ cell.fmod 7 = 3 ∨ cell.fmod 7 = 4 ∨ cell.fmod 7 = 5 ∨ cell.fmod 7 = 6 := by omega
  have pass : ∀ {o : Rs RV}, StepOk B m K o → ∃ t v, o = .ok (.own (.lst [t, v])) := fun ⟨t, v, e, _⟩ => ⟨t, v, e⟩
  rcases hp with e | e | e | e | e | e | e
  · obtain ⟨r0, r1⟩ := fmod_range (a := cell.fdiv 7) (m := 2001) (by decide)
    have st : (evSs (callN tab (n + 3)) tab.sub [c0, c1, .val (.int cell), .no, .no] f_law_step.body).fin = .ok (.own (.lst [numT ((cell.fdiv 7).fmod 2001 - 1000), .int ((cell.fdiv 7).fmod 2001 - 1000)])) := by
      simp only [f_law_step, x_str, x_int, x_var, x_bin, x_cmp, x_bl, x_sub, x_slc, x_call, x_tup, x_lst, x_dct, x_and, x_or, x_not, x_isi, x_bfn, xs_nil, xs_cons, bind_ok, d_val, d_own, d_bor, c_eqi, c_eqs, c_lt, c_le, c_gt, c_ge, bl_val, cell_val, cell_own, cell_lent, cell_bor, vas_nil, vas_cons, va_val, va_own, b_add, b_sub, and_nil, or_nil, q_and, q_or, q_at, q_af, q_ot, q_of, c_ind, c_nind, pu_nil, mg_nil, q_an, q_on, c_nes, c_neb, c_eqb, Bool.not_true, Bool.not_false, q_cons, q_nx, q_ret, q_if, q_tt, q_ff, ss_nil, ss_frz, s_asg, s_ret, out_ok, give_val, give_own, fin_ret, fin_nx, ret_val, ret_own, frz_own, frz_val, frz_bor, List.getD_cons_zero, List.getD_cons_succ, startE, List.map_cons, List.map_nil, List.length_cons, List.length_nil, List.replicate, List.cons_append, List.nil_append, List.getElem?_cons_zero, List.getElem?_cons_succ, List.set_cons_zero, List.set_cons_succ, Nat.reduceSub, Nat.reduceAdd, decide_true, decide_false, Int.reduceAdd, Int.reduceSub, beq_self_eq_true, Bool.false_eq_true, if_false, if_true, m7, d7, m2001, e]
      rfl
    rw [st]
    refine ⟨_, _, rfl, (rk_num rkt (.int _)).mono (by omega), .int, (numT_shw ?_).mono (by omega), Nat.le_trans numT_bk (by decide)⟩
    have : ((cell.fdiv 7).fmod 2001 - 1000).natAbs ≤ 1001 := by omega
    exact Nat.lt_of_le_of_lt this (by decide)
  · have f := record_ok (n := n + 1) H hk hs (cell.fdiv 7)
    obtain ⟨t, v, er, rest⟩ := f
    have er : callN tab (n + 3) 15 [rk, rs, .val (.int (cell.fdiv 7))] = .ok (.own (.lst [t, v])) := er
    have st : (evSs (callN tab (n + 3)) tab.sub [c0, c1, .val (.int cell), .no, .no] f_law_step.body).fin = .ok (.own (.lst [t, v])) := by
      simp only [f_law_step, x_str, x_int, x_var, x_bin, x_cmp, x_bl, x_sub, x_slc, x_call, x_tup, x_lst, x_dct, x_and, x_or, x_not, x_isi, x_bfn, xs_nil, xs_cons, bind_ok, d_val, d_own, d_bor, c_eqi, c_eqs, c_lt, c_le, c_gt, c_ge, bl_val, cell_val, cell_own, cell_lent, cell_bor, vas_nil, vas_cons, va_val, va_own, b_add, b_sub, and_nil, or_nil, q_and, q_or, q_at, q_af, q_ot, q_of, c_ind, c_nind, pu_nil, mg_nil, q_an, q_on, c_nes, c_neb, c_eqb, Bool.not_true, Bool.not_false, q_cons, q_nx, q_ret, q_if, q_tt, q_ff, ss_nil, ss_frz, s_asg, s_ret, out_ok, give_val, give_own, fin_ret, fin_nx, ret_val, ret_own, frz_own, frz_val, frz_bor, List.getD_cons_zero, List.getD_cons_succ, startE, List.map_cons, List.map_nil, List.length_cons, List.length_nil, List.replicate, List.cons_append, List.nil_append, List.getElem?_cons_zero, List.getElem?_cons_succ, List.set_cons_zero, List.set_cons_succ, Nat.reduceSub, Nat.reduceAdd, decide_true, decide_false, Int.reduceAdd, Int.reduceSub, beq_self_eq_true, Bool.false_eq_true, if_false, if_true, m7, d7, e, h0, h1, er, Int.reduceBEq]
    rw [st]
    exact ⟨_, _, rfl, rest⟩
  · have f := field_ok (n := n) H hk hs (cell.fdiv 7)
    obtain ⟨t, v, er, rest⟩ := f
    have st : (evSs (callN tab (n + 3)) tab.sub [c0, c1, .val (.int cell), .no, .no] f_law_step.body).fin = .ok (.own (.lst [t, v])) := by
      simp only [f_law_step, x_str, x_int, x_var, x_bin, x_cmp, x_bl, x_sub, x_slc, x_call, x_tup, x_lst, x_dct, x_and, x_or, x_not, x_isi, x_bfn, xs_nil, xs_cons, bind_ok, d_val, d_own, d_bor, c_eqi, c_eqs, c_lt, c_le, c_gt, c_ge, bl_val, cell_val, cell_own, cell_lent, cell_bor, vas_nil, vas_cons, va_val, va_own, b_add, b_sub, and_nil, or_nil, q_and, q_or, q_at, q_af, q_ot, q_of, c_ind, c_nind, pu_nil, mg_nil, q_an, q_on, c_nes, c_neb, c_eqb, Bool.not_true, Bool.not_false, q_cons, q_nx, q_ret, q_if, q_tt, q_ff, ss_nil, ss_frz, s_asg, s_ret, out_ok, give_val, give_own, fin_ret, fin_nx, ret_val, ret_own, frz_own, frz_val, frz_bor, List.getD_cons_zero, List.getD_cons_succ, startE, List.map_cons, List.map_nil, List.length_cons, List.length_nil, List.replicate, List.cons_append, List.nil_append, List.getElem?_cons_zero, List.getElem?_cons_succ, List.set_cons_zero, List.set_cons_succ, Nat.reduceSub, Nat.reduceAdd, decide_true, decide_false, Int.reduceAdd, Int.reduceSub, beq_self_eq_true, Bool.false_eq_true, if_false, if_true, m7, d7, e, h0, h1, er, Int.reduceBEq]
    rw [st]
    exact ⟨_, _, rfl, rest⟩
  · have f := with_ok (n := n) H hk hs (cell.fdiv 7)
    obtain ⟨t, v, er, rest⟩ := f
    have st : (evSs (callN tab (n + 3)) tab.sub [c0, c1, .val (.int cell), .no, .no] f_law_step.body).fin = .ok (.own (.lst [t, v])) := by
      simp only [f_law_step, x_str, x_int, x_var, x_bin, x_cmp, x_bl, x_sub, x_slc, x_call, x_tup, x_lst, x_dct, x_and, x_or, x_not, x_isi, x_bfn, xs_nil, xs_cons, bind_ok, d_val, d_own, d_bor, c_eqi, c_eqs, c_lt, c_le, c_gt, c_ge, bl_val, cell_val, cell_own, cell_lent, cell_bor, vas_nil, vas_cons, va_val, va_own, b_add, b_sub, and_nil, or_nil, q_and, q_or, q_at, q_af, q_ot, q_of, c_ind, c_nind, pu_nil, mg_nil, q_an, q_on, c_nes, c_neb, c_eqb, Bool.not_true, Bool.not_false, q_cons, q_nx, q_ret, q_if, q_tt, q_ff, ss_nil, ss_frz, s_asg, s_ret, out_ok, give_val, give_own, fin_ret, fin_nx, ret_val, ret_own, frz_own, frz_val, frz_bor, List.getD_cons_zero, List.getD_cons_succ, startE, List.map_cons, List.map_nil, List.length_cons, List.length_nil, List.replicate, List.cons_append, List.nil_append, List.getElem?_cons_zero, List.getElem?_cons_succ, List.set_cons_zero, List.set_cons_succ, Nat.reduceSub, Nat.reduceAdd, decide_true, decide_false, Int.reduceAdd, Int.reduceSub, beq_self_eq_true, Bool.false_eq_true, if_false, if_true, m7, d7, e, h0, h1, er, Int.reduceBEq]
    rw [st]
    exact ⟨_, _, rfl, rest⟩
  · have f := choice_ok (n := n + 1) H hk hs (cell.fdiv 7)
    obtain ⟨t, v, er, rest⟩ := f
    have er : callN tab (n + 3) 18 [rk, rs, .val (.int (cell.fdiv 7))] = .ok (.own (.lst [t, v])) := er
    have st : (evSs (callN tab (n + 3)) tab.sub [c0, c1, .val (.int cell), .no, .no] f_law_step.body).fin = .ok (.own (.lst [t, v])) := by
      simp only [f_law_step, x_str, x_int, x_var, x_bin, x_cmp, x_bl, x_sub, x_slc, x_call, x_tup, x_lst, x_dct, x_and, x_or, x_not, x_isi, x_bfn, xs_nil, xs_cons, bind_ok, d_val, d_own, d_bor, c_eqi, c_eqs, c_lt, c_le, c_gt, c_ge, bl_val, cell_val, cell_own, cell_lent, cell_bor, vas_nil, vas_cons, va_val, va_own, b_add, b_sub, and_nil, or_nil, q_and, q_or, q_at, q_af, q_ot, q_of, c_ind, c_nind, pu_nil, mg_nil, q_an, q_on, c_nes, c_neb, c_eqb, Bool.not_true, Bool.not_false, q_cons, q_nx, q_ret, q_if, q_tt, q_ff, ss_nil, ss_frz, s_asg, s_ret, out_ok, give_val, give_own, fin_ret, fin_nx, ret_val, ret_own, frz_own, frz_val, frz_bor, List.getD_cons_zero, List.getD_cons_succ, startE, List.map_cons, List.map_nil, List.length_cons, List.length_nil, List.replicate, List.cons_append, List.nil_append, List.getElem?_cons_zero, List.getElem?_cons_succ, List.set_cons_zero, List.set_cons_succ, Nat.reduceSub, Nat.reduceAdd, decide_true, decide_false, Int.reduceAdd, Int.reduceSub, beq_self_eq_true, Bool.false_eq_true, if_false, if_true, m7, d7, e, h0, h1, er, Int.reduceBEq]
    rw [st]
    exact ⟨_, _, rfl, rest⟩
  · have f := case_ok (n := n) H hk hs (cell.fdiv 7)
    obtain ⟨t, v, er, rest⟩ := f
    have st : (evSs (callN tab (n + 3)) tab.sub [c0, c1, .val (.int cell), .no, .no] f_law_step.body).fin = .ok (.own (.lst [t, v])) := by
      simp only [f_law_step, x_str, x_int, x_var, x_bin, x_cmp, x_bl, x_sub, x_slc, x_call, x_tup, x_lst, x_dct, x_and, x_or, x_not, x_isi, x_bfn, xs_nil, xs_cons, bind_ok, d_val, d_own, d_bor, c_eqi, c_eqs, c_lt, c_le, c_gt, c_ge, bl_val, cell_val, cell_own, cell_lent, cell_bor, vas_nil, vas_cons, va_val, va_own, b_add, b_sub, and_nil, or_nil, q_and, q_or, q_at, q_af, q_ot, q_of, c_ind, c_nind, pu_nil, mg_nil, q_an, q_on, c_nes, c_neb, c_eqb, Bool.not_true, Bool.not_false, q_cons, q_nx, q_ret, q_if, q_tt, q_ff, ss_nil, ss_frz, s_asg, s_ret, out_ok, give_val, give_own, fin_ret, fin_nx, ret_val, ret_own, frz_own, frz_val, frz_bor, List.getD_cons_zero, List.getD_cons_succ, startE, List.map_cons, List.map_nil, List.length_cons, List.length_nil, List.replicate, List.cons_append, List.nil_append, List.getElem?_cons_zero, List.getElem?_cons_succ, List.set_cons_zero, List.set_cons_succ, Nat.reduceSub, Nat.reduceAdd, decide_true, decide_false, Int.reduceAdd, Int.reduceSub, beq_self_eq_true, Bool.false_eq_true, if_false, if_true, m7, d7, e, h0, h1, er, Int.reduceBEq]
    rw [st]
    exact ⟨_, _, rfl, rest⟩
  · have f := if_ok (n := n + 2) H hk (cell.fdiv 7)
    obtain ⟨t, v, er, rest⟩ := f
    have er : callN tab (n + 3) 20 [rk, .val (.int (cell.fdiv 7))] = .ok (.own (.lst [t, v])) := er
    have st : (evSs (callN tab (n + 3)) tab.sub [c0, c1, .val (.int cell), .no, .no] f_law_step.body).fin = .ok (.own (.lst [t, v])) := by
      simp only [f_law_step, x_str, x_int, x_var, x_bin, x_cmp, x_bl, x_sub, x_slc, x_call, x_tup, x_lst, x_dct, x_and, x_or, x_not, x_isi, x_bfn, xs_nil, xs_cons, bind_ok, d_val, d_own, d_bor, c_eqi, c_eqs, c_lt, c_le, c_gt, c_ge, bl_val, cell_val, cell_own, cell_lent, cell_bor, vas_nil, vas_cons, va_val, va_own, b_add, b_sub, and_nil, or_nil, q_and, q_or, q_at, q_af, q_ot, q_of, c_ind, c_nind, pu_nil, mg_nil, q_an, q_on, c_nes, c_neb, c_eqb, Bool.not_true, Bool.not_false, q_cons, q_nx, q_ret, q_if, q_tt, q_ff, ss_nil, ss_frz, s_asg, s_ret, out_ok, give_val, give_own, fin_ret, fin_nx, ret_val, ret_own, frz_own, frz_val, frz_bor, List.getD_cons_zero, List.getD_cons_succ, startE, List.map_cons, List.map_nil, List.length_cons, List.length_nil, List.replicate, List.cons_append, List.nil_append, List.getElem?_cons_zero, List.getElem?_cons_succ, List.set_cons_zero, List.set_cons_succ, Nat.reduceSub, Nat.reduceAdd, decide_true, decide_false, Int.reduceAdd, Int.reduceSub, beq_self_eq_true, Bool.false_eq_true, if_false, if_true, m7, d7, e, h0, h1, er, Int.reduceBEq]
    rw [st]
    exact ⟨_, _, rfl, rest⟩
end
end K05
set_option Elab.async false
set_option linter.all false
set_option maxRecDepth 100000
set_option maxHeartbeats 4000000
set_option autoImplicit false
namespace K05
open PySem Ev L2
/-- lets, one behind another -/
def Chain : List Row → List (Str × D) → List (Str × D) → Prop
  | [], K, K' => K = K'
  | p :: r, K, K' => Rk tab 1 [] K p.2.1 (.ok p.2.2) 6 ∧ K.length < lim ∧ Chain r (put K p.1 p.2.2) K'
theorem Chain.snoc : ∀ {l : List Row} {K K' : List (Str × D)} {p : Row}, Chain l K K' → Rk tab 1 [] K' p.2.1 (.ok p.2.2) 6 → K'.length < lim → Chain (l ++ [p]) K (put K' p.1 p.2.2)
  | [], K, K', p, h, a, b => by
    have h : K = K' := h
    subst h
    exact ⟨a, b, rfl⟩
  | q :: r, K, K', p, ⟨h1, h2, h3⟩, a, b => ⟨h1, h2, Chain.snoc h3 a b⟩
def letT (p : Row) (t : D) : D := .tup [.str "let", .str p.1, p.2.1, t]
theorem Chain.rk : ∀ {l : List Row} {K K' : List (Str × D)} {x : Str} {v : D}, Chain l K K' → look K' x = some v → Rk tab 1 [] K (l.foldr letT (nmT x)) (.ok v) (l.length + 7)
  | [], K, K', x, v, h, hv => by
    have h : K = K' := h
    subst h
    exact (rk_name rkt hv).mono (by omega)
  | p :: r, K, K', x, v, ⟨h1, h2, h3⟩, hv => by
    have z := rk_let (dl := []) (ns := K) rkt (x := p.1) h1 (Chain.rk h3 hv) h2
    exact z.mono (by rw [List.length_cons]; omega)
theorem fold_sz : ∀ {l : List Row} {x : Str}, NmOk x → (∀ p, p ∈ l → NmOk p.1 ∧ Shw 8 p.2.1 ∧ bk p.2.1 ≤ 4000) → Shw (8 + l.length) (l.foldr letT (nmT x)) ∧ bk (l.foldr letT (nmT x)) ≤ 26 + l.length * 4030
  | [], x, hx, _ => ⟨(nmT_shw hx).mono (by omega), by have := nmT_bk hx; rw [List.length_nil]; show bk (nmT x) ≤ _; omega⟩
  | p :: r, x, hx, h => by
    obtain ⟨a, b⟩ := fold_sz hx fun q hq => h q (List.mem_cons_of_mem _ hq)
    obtain ⟨h1, h2, h3⟩ := h p List.mem_cons_self
    have w := z_bk (x := "let") (by decide +kernel) (by decide +kernel)
    refine ⟨(shw4 (w.1.mono (Nat.zero_le _)) (h1.shw.mono (Nat.zero_le _)) (h2.mono (by omega)) a).mono (by rw [List.length_cons]; omega), ?_⟩
    show bk (.tup [.str "let", .str p.1, p.2.1, r.foldr letT (nmT x)]) ≤ _
    rw [bk4, List.length_cons]
    have c := nm_bk h1
    omega
theorem atI_last {A : Type} {l : List A} {x : A} : L2.atI (l ++ [x]) (-1) = some x := by
  unfold L2.atI L2.ixN
  rw [if_neg (by decide), if_pos (by rw [List.length_append, List.length_singleton]; omega)]
  show (l ++ [x])[(-1 + ((l ++ [x]).length : Int)).toNat]? = some x
  have e : (-1 + ((l ++ [x]).length : Int)).toNat = l.length := by rw [List.length_append, List.length_singleton]; omega
  rw [e, List.getElem?_append_right (Nat.le_refl _), Nat.sub_self]
  rfl
theorem ne_lst {l : List D} : cmpop .ne (.lst l) (.lst []) = .ok (.val (.bl (!l.isEmpty))) := by
  have h : eqOk (.lst l) (.lst []) = true := by
    unfold eqOk
    refine decide_eq_true ?_
    have z : (D.lst []).dep = 1 := rfl
    omega
  have n : neOk (.lst l) (.lst []) = true := by
    cases l with
    | nil => rfl
    | cons a r => rfl
  have e : D.eqv (.lst l) (.lst []) = l.isEmpty := by cases l <;> simp [D.eqv, D.eqvL]
  have z : cmpop .ne (.lst l) (.lst []) = if eqOk (.lst l) (.lst []) = true ∧ neOk (.lst l) (.lst []) = true then .ok (.val (.bl (!D.eqv (.lst l) (.lst [])))) else .stuck := rfl
  rw [z, if_pos ⟨h, n⟩, e]
theorem eq_two {a b : Str} : cmpop .eq (.lst [.str a, .str b]) (.lst [.str a, .str b]) = .ok (.val (.bl true)) := by
  have e : D.eqv (.lst [.str a, .str b]) (.lst [.str a, .str b]) = true := by simp [D.eqv, D.eqvL]
  rw [c_eqd (by simp [eqOk, D.dep, D.depL]), e]
theorem comp_keepC {one : D → Rs (Option D)} {P : Str → Prop} : ∀ {its : List Str}, (∀ x, x ∈ its → (one (.str x) = .ok (some (.str x)) ∧ P x) ∨ one (.str x) = .ok none) → ∃ l : List Str, compL one (its.map D.str) = .ok (l.map D.str) ∧ (∀ x, x ∈ l → x ∈ its ∧ P x) ∧ l.length ≤ its.length ∧ ∀ x, x ∈ its → one (.str x) = .ok (some (.str x)) → x ∈ l
  | [], _ => ⟨[], rfl, fun x h => (by cases h), Nat.le_refl _, fun x h => (by cases h)⟩
  | a :: r, h => by
    obtain ⟨l, e1, e2, e3, e4⟩ := comp_keepC (P := P) fun x hx => h x (List.mem_cons_of_mem _ hx)
    rw [List.map_cons]
    unfold compL
    rcases h a List.mem_cons_self with ⟨q, p⟩ | q
    · refine ⟨a :: l, ?_, fun x hx => ?_, ?_, fun x hx ho => ?_⟩
      · rw [q, bind_ok, e1]; rfl
      · rcases List.mem_cons.mp hx with e | hx
        · rw [e]; exact ⟨List.mem_cons_self, p⟩
        · exact ⟨List.mem_cons_of_mem _ (e2 x hx).1, (e2 x hx).2⟩
      · rw [List.length_cons, List.length_cons]; omega
      · rcases List.mem_cons.mp hx with e | hx
        · rw [e]; exact List.mem_cons_self
        · exact List.mem_cons_of_mem _ (e4 x hx ho)
    · refine ⟨l, ?_, fun x hx => ⟨List.mem_cons_of_mem _ (e2 x hx).1, (e2 x hx).2⟩, ?_, fun x hx ho => ?_⟩
      · rw [q, bind_ok, e1]; rfl
      · rw [List.length_cons]; omega
      · rcases List.mem_cons.mp hx with e | hx
        · rw [e, q] at ho; cases ho
        · exact e4 x hx ho
/-- how far the going is -/
structure Going (i : Nat) (N0 : List (Str × D)) (lets : List Row) (K S : List (Str × D)) : Prop where
  len : lets.length = i
  ch : Chain lets N0 K
  kl : K.length ≤ 5 + i
  sl : S.length ≤ 5 + i
  vv : ∀ x v, look K x = some v → VV (60 + i) (3 + i) v
  nm : ∀ x v, look K x = some v → NmOk x
  sz : ∀ x v, look K x = some v → ∃ z, look S x = some (.int z)
  zk : look K "zzzz" = some (.int 5)
  zs : look S "zzzz" = some (.int 1)
  rows : ∀ p, p ∈ lets → NmOk p.1 ∧ Shw 8 p.2.1 ∧ bk p.2.1 ≤ 4000
  last : ∀ p r, lets = r ++ [p] → ∃ v, look K p.1 = some v
theorem small_ok {i : Nat} {N0 K S : List (Str × D)} {lets : List Row} (G : Going i N0 lets K S) (hi : i < 64) {call : Nat → List RV → Rs RV} {e : En} (h2 : e[2]? = some (.own (.dct K))) (h3 : e[3]? = some (.own (.dct S))) (hlen : 7 < e.length) :
    ∃ sm : List Str, evX call tab.sub e (.comp (.var 7) [7] (.ex (.var 2)) (.cmp .lt (.sub (.var 3) (.var 7)) (.cint 40))) = .ok (.own (.lst (sm.map D.str))) ∧ Stt (60 + i) (3 + i) K sm := by
  have hz : lim = 16777216 := rfl
  have hlK : K.length ≤ lim := by have := G.kl; omega
  have em : (K.map fun kv => D.str kv.1) = (K.map fun kv => kv.1).map D.str := by rw [List.map_map]; rfl
  rw [x_comp, it_dct h2 cell_own rfl hlK, bind_ok, if_pos (by rw [List.length_map]; exact hlK), em]
  have g2 : ∀ c, ((wipeS [7] e).set 7 c)[2]? = some (.own (.dct K)) := fun c => by
    show ((e.set 7 .no).set 7 c)[2]? = _
    rw [List.getElem?_set_ne (by decide), List.getElem?_set_ne (by decide), h2]
  have g3 : ∀ c, ((wipeS [7] e).set 7 c)[3]? = some (.own (.dct S)) := fun c => by
    show ((e.set 7 .no).set 7 c)[3]? = _
    rw [List.getElem?_set_ne (by decide), List.getElem?_set_ne (by decide), h3]
  have g7 : ∀ c, ((wipeS [7] e).set 7 c)[7]? = some c := fun c => by
    show ((e.set 7 .no).set 7 c)[7]? = _
    rw [List.getElem?_set_self (by rw [List.length_set]; exact hlen)]
  have one : ∀ x v, look K x = some v → ∃ z, look S x = some (.int z) ∧ (((setT [7] (.str x) (wipeS [7] e)).bind fun e' =>
        ((evX call tab.sub e' (.cmp .lt (.sub (.var 3) (.var 7)) (.cint 40))).bind asBl).bind fun b => if b = true then (evX call tab.sub e' (.var 7)).bind fun y => (asVal y).bind fun d => .ok (some d) else .ok none).noX) = .ok (if z < 40 then some (.str x) else none) := fun x v hv => by
    obtain ⟨z, hz⟩ := G.sz x v hv
    refine ⟨z, hz, ?_⟩
    rw [set_one, bind_ok]
    by_cases q : z < 40
    · have dd : decide (z < 40) = true := decide_eq_true q
      rw [if_pos q]
      simp only [x_str, x_int, x_var, x_bin, x_cmp, x_bl, x_sub, x_slc, x_call, x_tup, x_lst, x_dct, x_and, x_or, x_not, x_isi, x_bfn, xs_nil, xs_cons, bind_ok, d_val, d_own, d_bor, c_eqi, c_eqs, c_lt, c_le, c_gt, c_ge, bl_val, cell_val, cell_own, cell_lent, cell_bor, vas_nil, vas_cons, va_val, va_own, b_add, b_sub, and_nil, or_nil, q_and, q_or, q_at, q_af, q_ot, q_of, c_ind, c_nind, pu_nil, mg_nil, q_an, q_on, c_nes, c_neb, c_eqb, Bool.not_true, Bool.not_false, startE, List.map_cons, List.map_nil, List.length_cons, List.length_nil, List.replicate, List.cons_append, List.nil_append, List.getElem?_cons_zero, List.getElem?_cons_succ, List.set_cons_zero, List.set_cons_succ, Nat.reduceSub, Nat.reduceAdd, decide_true, decide_false, Int.reduceAdd, Int.reduceSub, beq_self_eq_true, Bool.false_eq_true, if_false, if_true, g3, g7, sub_dct hz, dd, noX_ok]
    · have dd : decide (z < 40) = false := decide_eq_false q
      rw [if_neg q]
      simp only [x_str, x_int, x_var, x_bin, x_cmp, x_bl, x_sub, x_slc, x_call, x_tup, x_lst, x_dct, x_and, x_or, x_not, x_isi, x_bfn, xs_nil, xs_cons, bind_ok, d_val, d_own, d_bor, c_eqi, c_eqs, c_lt, c_le, c_gt, c_ge, bl_val, cell_val, cell_own, cell_lent, cell_bor, vas_nil, vas_cons, va_val, va_own, b_add, b_sub, and_nil, or_nil, q_and, q_or, q_at, q_af, q_ot, q_of, c_ind, c_nind, pu_nil, mg_nil, q_an, q_on, c_nes, c_neb, c_eqb, Bool.not_true, Bool.not_false, startE, List.map_cons, List.map_nil, List.length_cons, List.length_nil, List.replicate, List.cons_append, List.nil_append, List.getElem?_cons_zero, List.getElem?_cons_succ, List.set_cons_zero, List.set_cons_succ, Nat.reduceSub, Nat.reduceAdd, decide_true, decide_false, Int.reduceAdd, Int.reduceSub, beq_self_eq_true, Bool.false_eq_true, if_false, if_true, g3, g7, sub_dct hz, dd, noX_ok]
  have keyv : ∀ x, x ∈ (K.map fun kv => kv.1) → ∃ v, look K x = some v := fun x hx => by
    obtain ⟨p, hp, e⟩ := List.mem_map.mp hx
    exact look_has (ks := K) (k := x) (has_iff.mpr (List.mem_map.mpr ⟨p, hp, e⟩))
  obtain ⟨sm, q1, q2, q3, q4⟩ := comp_keepC (its := K.map fun kv => kv.1) (P := fun _ => True) (one := fun d => ((setT [7] d (wipeS [7] e)).bind fun e' =>
        ((evX call tab.sub e' (.cmp .lt (.sub (.var 3) (.var 7)) (.cint 40))).bind asBl).bind fun b => if b = true then (evX call tab.sub e' (.var 7)).bind fun y => (asVal y).bind fun d => .ok (some d) else .ok none).noX) (fun x hx => by
      obtain ⟨v, hv⟩ := keyv x hx
      obtain ⟨z, _, ho⟩ := one x v hv
      by_cases q : z < 40
      · rw [if_pos q] at ho
        exact .inl ⟨ho, trivial⟩
      · rw [if_neg q] at ho
        exact .inr ho)
  rw [q1]
  refine ⟨sm, rfl, by have := G.kl; omega, G.vv, G.nm, fun x hx => keyv x (q2 x hx).1, ?_, by rw [List.length_map] at q3; omega, by omega, by omega⟩
  obtain ⟨z, h1, ho⟩ := one _ _ G.zk
  rw [G.zs] at h1
  injection h1 with h1
  injection h1 with h1
  rw [← h1, if_pos (by decide)] at ho
  have mem := q4 "zzzz" (List.mem_map.mpr ⟨_, lookQ_mem G.zk, rfl⟩) ho
  intro en
  rw [en] at mem
  cases mem
end K05
set_option Elab.async false
set_option linter.all false
set_option maxRecDepth 100000
set_option maxHeartbeats 4000000
set_option autoImplicit false
namespace K05
open PySem Ev L2
theorem l2_0 {a b : D} : subop (.lst [a, b]) (.int 0) = .ok (.val a) := rfl
theorem l2_1 {a b : D} : subop (.lst [a, b]) (.int 1) = .ok (.val b) := rfl
theorem back_same (c : Cel) (r s : En) : backE (c :: r) (c :: s) = c :: backE r s := by cases c <;> rfl
theorem back_val (d : D) (c : Cel) (r s : En) : backE (.val d :: r) (c :: s) = c :: backE r s := rfl
theorem back_no (c : Cel) (r s : En) : backE (.no :: r) (c :: s) = c :: backE r s := rfl
theorem back_own (d d' : D) (r s : En) : backE (.own d :: r) (.own d' :: s) = .own d' :: backE r s := rfl
theorem back_nil (s : En) : backE [] s = s := by cases s <;> rfl
theorem Going.step {i : Nat} {N0 K S : List (Str × D)} {lets : List Row} (G : Going i N0 lets K S) (hi : i < 64) {t : Str} (ht : Nz t) {tr v : D} {z : Int} (h1 : Rk tab 1 [] K tr (.ok v) 6) (h2 : VV (60 + i + 1) (3 + i + 1) v) (h3 : Shw 8 tr) (h4 : bk tr ≤ 4000) :
    Going (i + 1) N0 (lets ++ [(t, tr, v)]) (put K t v) (put S t (.int z)) := by
  have hz : lim = 16777216 := rfl
  have nz : ¬ t = "zzzz" := fun e => ht.nz (by rw [e]; decide +kernel)
  refine ⟨by rw [List.length_append, G.len]; rfl, G.ch.snoc h1 (by have := G.kl; omega), ?_, ?_, ?_, ?_, ?_, ?_, ?_, ?_, ?_⟩
  · have := (put_len (ks := K) (k := t) (v := v)).1
    have := G.kl
    omega
  · have := (put_len (ks := S) (k := t) (v := .int z)).1
    have := G.sl
    omega
  · intro x w hx
    rw [look_put] at hx
    by_cases q : t = x
    · rw [if_pos q] at hx
      injection hx with hx
      rw [← hx]
      exact h2.mono (by omega) (by omega)
    · rw [if_neg q] at hx
      exact (G.vv x w hx).mono (by omega) (by omega)
  · intro x w hx
    rw [look_put] at hx
    by_cases q : t = x
    · rw [← q]; exact ht.nm
    · rw [if_neg q] at hx
      exact G.nm x w hx
  · intro x w hx
    rw [look_put] at hx
    rw [look_put]
    by_cases q : t = x
    · rw [if_pos q]; exact ⟨z, rfl⟩
    · rw [if_neg q] at hx ⊢
      exact G.sz x w hx
  · rw [look_put, if_neg nz]; exact G.zk
  · rw [look_put, if_neg nz]; exact G.zs
  · intro p hp
    rcases List.mem_append.mp hp with h | h
    · exact G.rows p h
    · have e : p = (t, tr, v) := by simpa using h
      rw [e]
      exact ⟨ht.nm, h3, h4⟩
  · intro p r e
    have e2 := (List.append_inj' e rfl).2
    injection e2 with e2
    rw [← e2]
    exact ⟨v, by rw [look_put, if_pos rfl]⟩
theorem body_ok {i : Nat} {N0 K S : List (Str × D)} {lets : List Row} (G : Going i N0 lets K S) (hi : i < 64) (SC : D) (cell : Int) (c12 c13 c14 : Cel) :
    ∃ p K' S' a b c, evSs (callN tab 99) tab.sub [.bor SC, .own (.dct N0), .own (.dct K), .own (.dct S), .own (.lst (lets.map Row.t)), .no, .no, .no, .no, .no, .val (.int (i : Int)), .val (.int cell), c12, c13, c14] b_law_0 = .nx [.bor SC, .own (.dct N0), .own (.dct K'), .own (.dct S'), .own (.lst ((lets ++ [p]).map Row.t)), .no, .no, .no, .no, .no, .val (.int (i : Int)), .val (.int cell), a, b, c] ∧ Going (i + 1) N0 (lets ++ [p]) K' S' := by
  have hz : lim = 16777216 := rfl
  have d97 := fun (i : Int) => b_fdiv (i := i) (j := 97) ⟨by decide, by decide⟩
  have m80 := fun (i : Int) => b_mod (i := i) (j := 80) (by decide)
  have m5 := fun (i : Int) => b_mod (i := i) (j := 5) (by decide)
  have mb := fun (i : Int) => b_mod (i := i) (j := 2147483647) (by decide)
  have mu := b_mul (i := cell) (j := 48271) (by decide)
  obtain ⟨r0, r1⟩ := fmod_range (a := (i : Int)) (m := 5) (by decide)
  obtain ⟨w1, mu1⟩ : ∃ w1, binop .mul (.int 80) (.int ((i : Int).fmod 5)) = .ok (.val (.int w1)) := ⟨_, b_mul (small_n r0 (by omega))⟩
  obtain ⟨t, nt, ht⟩ := name5_ok (n := 98) ((cell.fdiv 97).fmod 80 + w1)
  have nt : callN tab 99 12 [.val (.int ((cell.fdiv 97).fmod 80 + w1))] = .ok (.val (.str t)) := nt
  have s1 : evS (callN tab 99) tab.sub [.bor SC, .own (.dct N0), .own (.dct K), .own (.dct S), .own (.lst (lets.map Row.t)), .no, .no, .no, .no, .no, .val (.int (i : Int)), .val (.int cell), c12, c13, c14] (.asg 12 (.call 12 (.cons (.bin .add (.bin .mod (.bin .fdiv (.var 11) (.cint 97)) (.cint 80)) (.bin .mul (.cint 80) (.bin .mod (.var 10) (.cint 5)))) .nil))) = .nx [.bor SC, .own (.dct N0), .own (.dct K), .own (.dct S), .own (.lst (lets.map Row.t)), .no, .no, .no, .no, .no, .val (.int (i : Int)), .val (.int cell), .val (.str t), c13, c14] := by
    simp only [x_str, x_int, x_var, x_bin, x_cmp, x_bl, x_sub, x_slc, x_call, x_tup, x_lst, x_dct, x_and, x_or, x_not, x_isi, x_bfn, xs_nil, xs_cons, bind_ok, d_val, d_own, d_bor, c_eqi, c_eqs, c_lt, c_le, c_gt, c_ge, bl_val, cell_val, cell_own, cell_lent, cell_bor, vas_nil, vas_cons, va_val, va_own, b_add, b_sub, and_nil, or_nil, q_and, q_or, q_at, q_af, q_ot, q_of, c_ind, c_nind, pu_nil, mg_nil, q_an, q_on, c_nes, c_neb, c_eqb, Bool.not_true, Bool.not_false, q_cons, q_nx, q_ret, q_if, q_tt, q_ff, ss_nil, ss_frz, s_asg, s_ret, out_ok, give_val, give_own, fin_ret, fin_nx, ret_val, ret_own, frz_own, frz_val, frz_bor, List.getD_cons_zero, List.getD_cons_succ, startE, List.map_cons, List.map_nil, List.length_cons, List.length_nil, List.replicate, List.cons_append, List.nil_append, List.getElem?_cons_zero, List.getElem?_cons_succ, List.set_cons_zero, List.set_cons_succ, Nat.reduceSub, Nat.reduceAdd, decide_true, decide_false, Int.reduceAdd, Int.reduceSub, beq_self_eq_true, Bool.false_eq_true, if_false, if_true, d97, m80, m5, mu1, nt]
  obtain ⟨sm, q1, H⟩ := small_ok G hi (call := callN tab 99) (e := [.bor SC, .own (.dct N0), .own (.dct K), .own (.dct S), .own (.lst (lets.map Row.t)), .no, .no, .no, .no, .no, .val (.int (i : Int)), .val (.int cell), .val (.str t), c13, c14]) rfl rfl (by simp)
  have s2 : evS (callN tab 99) tab.sub [.bor SC, .own (.dct N0), .own (.dct K), .own (.dct S), .own (.lst (lets.map Row.t)), .no, .no, .no, .no, .no, .val (.int (i : Int)), .val (.int cell), .val (.str t), c13, c14] (.asg 13 (.comp (.var 7) [7] (.ex (.var 2)) (.cmp .lt (.sub (.var 3) (.var 7)) (.cint 40)))) = .nx [.bor SC, .own (.dct N0), .own (.dct K), .own (.dct S), .own (.lst (lets.map Row.t)), .no, .no, .no, .no, .no, .val (.int (i : Int)), .val (.int cell), .val (.str t), .own (.lst (sm.map D.str)), c14] := by
    rw [s_asg, q1]
    rfl
  obtain ⟨tr, v, f1, f2, f3, f4, f5⟩ := step_ok (n := 95) H (held_bor (.dct K)) (held_bor (.lst (sm.map D.str))) ((cell * 48271).fmod 2147483647 + (i : Int))
  have f1 : callN tab 99 21 [.bor (.dct K), .bor (.lst (sm.map D.str)), .val (.int ((cell * 48271).fmod 2147483647 + (i : Int)))] = .ok (.own (.lst [tr, v])) := f1
  have s3 : evS (callN tab 99) tab.sub [.bor SC, .own (.dct N0), .own (.dct K), .own (.dct S), .own (.lst (lets.map Row.t)), .no, .no, .no, .no, .no, .val (.int (i : Int)), .val (.int cell), .val (.str t), .own (.lst (sm.map D.str)), c14] (.asg 14 (.call 21 (.cons (.var 2) (.cons (.var 13) (.cons (.bin .add (.bin .mod (.bin .mul (.var 11) (.cint 48271)) (.cint 2147483647)) (.var 10)) .nil))))) = .nx [.bor SC, .own (.dct N0), .own (.dct K), .own (.dct S), .own (.lst (lets.map Row.t)), .no, .no, .no, .no, .no, .val (.int (i : Int)), .val (.int cell), .val (.str t), .own (.lst (sm.map D.str)), .own (.lst [tr, v])] := by
    simp only [x_str, x_int, x_var, x_bin, x_cmp, x_bl, x_sub, x_slc, x_call, x_tup, x_lst, x_dct, x_and, x_or, x_not, x_isi, x_bfn, xs_nil, xs_cons, bind_ok, d_val, d_own, d_bor, c_eqi, c_eqs, c_lt, c_le, c_gt, c_ge, bl_val, cell_val, cell_own, cell_lent, cell_bor, vas_nil, vas_cons, va_val, va_own, b_add, b_sub, and_nil, or_nil, q_and, q_or, q_at, q_af, q_ot, q_of, c_ind, c_nind, pu_nil, mg_nil, q_an, q_on, c_nes, c_neb, c_eqb, Bool.not_true, Bool.not_false, q_cons, q_nx, q_ret, q_if, q_tt, q_ff, ss_nil, ss_frz, s_asg, s_ret, out_ok, give_val, give_own, fin_ret, fin_nx, ret_val, ret_own, frz_own, frz_val, frz_bor, List.getD_cons_zero, List.getD_cons_succ, startE, List.map_cons, List.map_nil, List.length_cons, List.length_nil, List.replicate, List.cons_append, List.nil_append, List.getElem?_cons_zero, List.getElem?_cons_succ, List.set_cons_zero, List.set_cons_succ, Nat.reduceSub, Nat.reduceAdd, decide_true, decide_false, Int.reduceAdd, Int.reduceSub, beq_self_eq_true, Bool.false_eq_true, if_false, if_true, mu, mb, f1]
  obtain ⟨z, sz⟩ := size_ok (B := 60 + i + 1) (by omega) (3 + i + 1) 99 v (.val v) f3 (held_val v) (by omega)
  have al : (lets.map Row.t).length < lim := by rw [List.length_map, G.len]; omega
  have ap : evS (callN tab 99) tab.sub [.bor SC, .own (.dct N0), .own (.dct K), .own (.dct S), .own (.lst (lets.map Row.t)), .no, .no, .no, .no, .no, .val (.int (i : Int)), .val (.int cell), .val (.str t), .own (.lst (sm.map D.str)), .own (.lst [tr, v])] (.app 4 (.tup (.cons (.var 12) (.cons (.sub (.var 14) (.cint 0)) .nil)))) = .nx [.bor SC, .own (.dct N0), .own (.dct K), .own (.dct S), .own (.lst ((lets ++ [((t, tr, v) : Row)]).map Row.t)), .no, .no, .no, .no, .no, .val (.int (i : Int)), .val (.int cell), .val (.str t), .own (.lst (sm.map D.str)), .own (.lst [tr, v])] := by
    rw [s_appO (xs := lets.map Row.t) rfl]
    simp only [x_str, x_int, x_var, x_bin, x_cmp, x_bl, x_sub, x_slc, x_call, x_tup, x_lst, x_dct, x_and, x_or, x_not, x_isi, x_bfn, xs_nil, xs_cons, bind_ok, d_val, d_own, d_bor, c_eqi, c_eqs, c_lt, c_le, c_gt, c_ge, bl_val, cell_val, cell_own, cell_lent, cell_bor, vas_nil, vas_cons, va_val, va_own, b_add, b_sub, and_nil, or_nil, q_and, q_or, q_at, q_af, q_ot, q_of, c_ind, c_nind, pu_nil, mg_nil, q_an, q_on, c_nes, c_neb, c_eqb, Bool.not_true, Bool.not_false, startE, List.map_cons, List.map_nil, List.length_cons, List.length_nil, List.replicate, List.cons_append, List.nil_append, List.getElem?_cons_zero, List.getElem?_cons_succ, List.set_cons_zero, List.set_cons_succ, Nat.reduceSub, Nat.reduceAdd, decide_true, decide_false, Int.reduceAdd, Int.reduceSub, beq_self_eq_true, Bool.false_eq_true, if_false, if_true, l2_0]
    rw [out_ok, if_pos al, List.map_append]
    rfl
  have s4 : evS (callN tab 99) tab.sub [.bor SC, .own (.dct N0), .own (.dct K), .own (.dct S), .own (.lst ((lets ++ [((t, tr, v) : Row)]).map Row.t)), .no, .no, .no, .no, .no, .val (.int (i : Int)), .val (.int cell), .val (.str t), .own (.lst (sm.map D.str)), .own (.lst [tr, v])] (.setI 2 (.var 12) (.sub (.var 14) (.cint 1))) = .nx [.bor SC, .own (.dct N0), .own (.dct (put K t v)), .own (.dct S), .own (.lst ((lets ++ [((t, tr, v) : Row)]).map Row.t)), .no, .no, .no, .no, .no, .val (.int (i : Int)), .val (.int cell), .val (.str t), .own (.lst (sm.map D.str)), .own (.lst [tr, v])] := by
    rw [s_setO (d := .dct K) rfl]
    simp only [x_str, x_int, x_var, x_bin, x_cmp, x_bl, x_sub, x_slc, x_call, x_tup, x_lst, x_dct, x_and, x_or, x_not, x_isi, x_bfn, xs_nil, xs_cons, bind_ok, d_val, d_own, d_bor, c_eqi, c_eqs, c_lt, c_le, c_gt, c_ge, bl_val, cell_val, cell_own, cell_lent, cell_bor, vas_nil, vas_cons, va_val, va_own, b_add, b_sub, and_nil, or_nil, q_and, q_or, q_at, q_af, q_ot, q_of, c_ind, c_nind, pu_nil, mg_nil, q_an, q_on, c_nes, c_neb, c_eqb, Bool.not_true, Bool.not_false, startE, List.map_cons, List.map_nil, List.length_cons, List.length_nil, List.replicate, List.cons_append, List.nil_append, List.getElem?_cons_zero, List.getElem?_cons_succ, List.set_cons_zero, List.set_cons_succ, Nat.reduceSub, Nat.reduceAdd, decide_true, decide_false, Int.reduceAdd, Int.reduceSub, beq_self_eq_true, Bool.false_eq_true, if_false, if_true, l2_1]
    rw [out_ok, setO_dct rfl (by have := G.kl; omega)]
    rfl
  have s5 : evS (callN tab 99) tab.sub [.bor SC, .own (.dct N0), .own (.dct (put K t v)), .own (.dct S), .own (.lst ((lets ++ [((t, tr, v) : Row)]).map Row.t)), .no, .no, .no, .no, .no, .val (.int (i : Int)), .val (.int cell), .val (.str t), .own (.lst (sm.map D.str)), .own (.lst [tr, v])] (.setI 3 (.var 12) (.call 13 (.cons (.sub (.var 14) (.cint 1)) .nil))) = .nx [.bor SC, .own (.dct N0), .own (.dct (put K t v)), .own (.dct (put S t (.int z))), .own (.lst ((lets ++ [((t, tr, v) : Row)]).map Row.t)), .no, .no, .no, .no, .no, .val (.int (i : Int)), .val (.int cell), .val (.str t), .own (.lst (sm.map D.str)), .own (.lst [tr, v])] := by
    rw [s_setO (d := .dct S) rfl]
    simp only [x_str, x_int, x_var, x_bin, x_cmp, x_bl, x_sub, x_slc, x_call, x_tup, x_lst, x_dct, x_and, x_or, x_not, x_isi, x_bfn, xs_nil, xs_cons, bind_ok, d_val, d_own, d_bor, c_eqi, c_eqs, c_lt, c_le, c_gt, c_ge, bl_val, cell_val, cell_own, cell_lent, cell_bor, vas_nil, vas_cons, va_val, va_own, b_add, b_sub, and_nil, or_nil, q_and, q_or, q_at, q_af, q_ot, q_of, c_ind, c_nind, pu_nil, mg_nil, q_an, q_on, c_nes, c_neb, c_eqb, Bool.not_true, Bool.not_false, startE, List.map_cons, List.map_nil, List.length_cons, List.length_nil, List.replicate, List.cons_append, List.nil_append, List.getElem?_cons_zero, List.getElem?_cons_succ, List.set_cons_zero, List.set_cons_succ, Nat.reduceSub, Nat.reduceAdd, decide_true, decide_false, Int.reduceAdd, Int.reduceSub, beq_self_eq_true, Bool.false_eq_true, if_false, if_true, l2_1, sz]
    rw [out_ok, setO_dct rfl (by have := G.sl; omega)]
    rfl
  refine ⟨(t, tr, v), put K t v, put S t (.int z), .val (.str t), .own (.lst (sm.map D.str)), .own (.lst [tr, v]), ?_, G.step hi ht f2 f3 f4 f5⟩
  unfold b_law_0
  rw [q_cons, s1, q_nx, q_cons, s2, q_nx, q_cons, s3, q_nx]
  simp only [ss_frz, startE, List.map_cons, List.map_nil, List.length_cons, List.length_nil, List.replicate, List.cons_append, List.nil_append, List.getElem?_cons_zero, List.getElem?_cons_succ, List.set_cons_zero, List.set_cons_succ, Nat.reduceSub, Nat.reduceAdd, decide_true, decide_false, Int.reduceAdd, Int.reduceSub, beq_self_eq_true, Bool.false_eq_true, if_false, if_true, List.getD_cons_zero, List.getD_cons_succ, frz_val]
  rw [q_cons, ap, q_nx, q_cons, s4, q_nx, q_cons, s5, q_nx, ss_nil]
theorem tail_ok {i : Nat} {N0 K S : List (Str × D)} {lets : List Row} (G : Going i N0 lets K S) (hi : i < 64) (hA : ∃ v, look N0 "a" = some v) (hN : (D.dct N0).showOk = true) (SC : D) (c10 c11 c12 c13 c14 : Cel) :
    (evSs (callN tab 99) tab.sub [.bor SC, .own (.dct N0), .own (.dct K), .own (.dct S), .own (.lst (lets.map Row.t)), .no, .no, .no, .no, .no, c10, c11, c12, c13, c14] r_law_0).fin = .ok (.val (.bl true)) := by
  have hz : lim = 16777216 := rfl
  have neg1 : ∀ e : En, evX (callN tab 99) tab.sub e (.neg (.cint 1)) = .ok (.val (.int (-1))) := fun e => by rw [x_neg, x_int]; rfl
  have fst : ∃ x v, look K x = some v ∧ NmOk x ∧ evSs (callN tab 99) tab.sub [.bor SC, .own (.dct N0), .own (.dct K), .own (.dct S), .own (.lst (lets.map Row.t)), .no, .no, .no, .no, .no, c10, c11, c12, c13, c14] r_law_0 = evSs (callN tab 99) tab.sub [.bor SC, .own (.dct N0), .own (.dct K), .own (.dct S), .own (.lst (lets.map Row.t)), .val (.str x), .no, .no, .no, .no, c10, c11, c12, c13, c14] j_law_0 := by
    by_cases q : lets = []
    · obtain ⟨v, hv⟩ := hA
      have ch := G.ch
      rw [q] at ch
      have ch : N0 = K := ch
      rw [ch] at hv
      have em : (lets.map Row.t).isEmpty = true := by rw [q]; rfl
      refine ⟨"a", v, hv, .lit (by decide +kernel), ?_⟩
      simp only [r_law_0, x_str, x_int, x_var, x_bin, x_cmp, x_bl, x_sub, x_slc, x_call, x_tup, x_lst, x_dct, x_and, x_or, x_not, x_isi, x_bfn, xs_nil, xs_cons, bind_ok, d_val, d_own, d_bor, c_eqi, c_eqs, c_lt, c_le, c_gt, c_ge, bl_val, cell_val, cell_own, cell_lent, cell_bor, vas_nil, vas_cons, va_val, va_own, b_add, b_sub, and_nil, or_nil, q_and, q_or, q_at, q_af, q_ot, q_of, c_ind, c_nind, pu_nil, mg_nil, q_an, q_on, c_nes, c_neb, c_eqb, Bool.not_true, Bool.not_false, q_cons, q_nx, q_ret, q_if, q_tt, q_ff, ss_nil, ss_frz, s_asg, s_ret, out_ok, give_val, give_own, fin_ret, fin_nx, ret_val, ret_own, frz_own, frz_val, frz_bor, List.getD_cons_zero, List.getD_cons_succ, startE, List.map_cons, List.map_nil, List.length_cons, List.length_nil, List.replicate, List.cons_append, List.nil_append, List.getElem?_cons_zero, List.getElem?_cons_succ, List.set_cons_zero, List.set_cons_succ, Nat.reduceSub, Nat.reduceAdd, decide_true, decide_false, Int.reduceAdd, Int.reduceSub, beq_self_eq_true, Bool.false_eq_true, if_false, if_true, ne_lst, em]
    · obtain ⟨r, p, e⟩ : ∃ r p, lets = r ++ [p] := ⟨lets.dropLast, lets.getLast q, (List.dropLast_concat_getLast q).symm⟩
      obtain ⟨v, hv⟩ := G.last p r e
      have em : (lets.map Row.t).isEmpty = false := by rw [e, List.map_append]; cases r <;> rfl
      have la : subop (.lst (lets.map Row.t)) (.int (-1)) = .ok (.val (.tup [.str p.1, p.2.1])) := by
        rw [e, List.map_append]
        exact sub_lst atI_last
      refine ⟨p.1, v, hv, (G.rows p (by rw [e]; exact List.mem_append_right _ List.mem_cons_self)).1, ?_⟩
      simp only [r_law_0, x_str, x_int, x_var, x_bin, x_cmp, x_bl, x_sub, x_slc, x_call, x_tup, x_lst, x_dct, x_and, x_or, x_not, x_isi, x_bfn, xs_nil, xs_cons, bind_ok, d_val, d_own, d_bor, c_eqi, c_eqs, c_lt, c_le, c_gt, c_ge, bl_val, cell_val, cell_own, cell_lent, cell_bor, vas_nil, vas_cons, va_val, va_own, b_add, b_sub, and_nil, or_nil, q_and, q_or, q_at, q_af, q_ot, q_of, c_ind, c_nind, pu_nil, mg_nil, q_an, q_on, c_nes, c_neb, c_eqb, Bool.not_true, Bool.not_false, q_cons, q_nx, q_ret, q_if, q_tt, q_ff, ss_nil, ss_frz, s_asg, s_ret, out_ok, give_val, give_own, fin_ret, fin_nx, ret_val, ret_own, frz_own, frz_val, frz_bor, List.getD_cons_zero, List.getD_cons_succ, startE, List.map_cons, List.map_nil, List.length_cons, List.length_nil, List.replicate, List.cons_append, List.nil_append, List.getElem?_cons_zero, List.getElem?_cons_succ, List.set_cons_zero, List.set_cons_succ, Nat.reduceSub, Nat.reduceAdd, decide_true, decide_false, Int.reduceAdd, Int.reduceSub, beq_self_eq_true, Bool.false_eq_true, if_false, if_true, ne_lst, em, neg1, la, s2_0]
  obtain ⟨x, v, hv, nx, e1⟩ := fst
  rw [e1]
  have e2 : evSs (callN tab 99) tab.sub [.bor SC, .own (.dct N0), .own (.dct K), .own (.dct S), .own (.lst (lets.map Row.t)), .val (.str x), .no, .no, .no, .no, c10, c11, c12, c13, c14] j_law_0 = runSs (callN tab 99) tab.sub (evS (callN tab 99) tab.sub [.bor SC, .own (.dct N0), .own (.dct K), .own (.dct S), .val (.lst (lets.map Row.t)), .val (.str x), .val (nmT x), .no, .no, .no, c10, c11, c12, c13, c14] (.forr [7] (.rev (.var 4)) b_law_1)) r_law_1 := by
    unfold nmT
    simp only [j_law_0, x_str, x_int, x_var, x_bin, x_cmp, x_bl, x_sub, x_slc, x_call, x_tup, x_lst, x_dct, x_and, x_or, x_not, x_isi, x_bfn, xs_nil, xs_cons, bind_ok, d_val, d_own, d_bor, c_eqi, c_eqs, c_lt, c_le, c_gt, c_ge, bl_val, cell_val, cell_own, cell_lent, cell_bor, vas_nil, vas_cons, va_val, va_own, b_add, b_sub, and_nil, or_nil, q_and, q_or, q_at, q_af, q_ot, q_of, c_ind, c_nind, pu_nil, mg_nil, q_an, q_on, c_nes, c_neb, c_eqb, Bool.not_true, Bool.not_false, q_cons, q_nx, q_ret, q_if, q_tt, q_ff, ss_nil, ss_frz, s_asg, s_ret, out_ok, give_val, give_own, fin_ret, fin_nx, ret_val, ret_own, frz_own, frz_val, frz_bor, List.getD_cons_zero, List.getD_cons_succ, startE, List.map_cons, List.map_nil, List.length_cons, List.length_nil, List.replicate, List.cons_append, List.nil_append, List.getElem?_cons_zero, List.getElem?_cons_succ, List.set_cons_zero, List.set_cons_succ, Nat.reduceSub, Nat.reduceAdd, decide_true, decide_false, Int.reduceAdd, Int.reduceSub, beq_self_eq_true, Bool.false_eq_true, if_false, if_true]
  rw [e2]
  have ll : (lets.map Row.t).length ≤ lim := by rw [List.length_map, G.len]; omega
  have it1 : evIt (callN tab 99) tab.sub [.bor SC, .own (.dct N0), .own (.dct K), .own (.dct S), .val (.lst (lets.map Row.t)), .val (.str x), .val (nmT x), .no, .no, .no, c10, c11, c12, c13, c14] (.rev (.var 4)) = .ok (lets.reverse.map Row.t) := by
    rw [i_rev, x_var, List.map_reverse]
    exact if_pos ll
  obtain ⟨e', k1, k2⟩ := for_inv (tg := [7]) (b := b_law_1) it1 (fun i e => ∃ c7 : Cel, e = [.bor SC, .own (.dct N0), .own (.dct K), .own (.dct S), .val (.lst (lets.map Row.t)), .val (.str x), .val ((lets.reverse.take i).foldl (fun t p => letT p t) (nmT x)), c7, .no, .no, c10, c11, c12, c13, c14])
    ⟨.no, rfl⟩ (fun i d e1 hd ⟨c7, e0⟩ => by
      subst e0
      rw [List.getElem?_map] at hd
      cases hq : lets.reverse[i]? with
      | none => rw [hq] at hd; cases hd
      | some p =>
        rw [hq] at hd
        have hd : some (Row.t p) = some d := hd
        injection hd with hd
        subst hd
        have et : lets.reverse.take (i + 1) = lets.reverse.take i ++ [p] := by rw [List.take_add_one, hq]; rfl
        refine ⟨_, _, set_one, ?_, .val (Row.t p), rfl⟩
        rw [et, List.foldl_append]
        show evSs _ _ [.bor SC, .own (.dct N0), .own (.dct K), .own (.dct S), .val (.lst (lets.map Row.t)), .val (.str x), .val ((lets.reverse.take i).foldl (fun t p => letT p t) (nmT x)), .val (.tup [.str p.1, p.2.1]), .no, .no, c10, c11, c12, c13, c14] b_law_1 = _
        generalize (lets.reverse.take i).foldl (fun t p => letT p t) (nmT x) = T
        simp only [b_law_1, x_str, x_int, x_var, x_bin, x_cmp, x_bl, x_sub, x_slc, x_call, x_tup, x_lst, x_dct, x_and, x_or, x_not, x_isi, x_bfn, xs_nil, xs_cons, bind_ok, d_val, d_own, d_bor, c_eqi, c_eqs, c_lt, c_le, c_gt, c_ge, bl_val, cell_val, cell_own, cell_lent, cell_bor, vas_nil, vas_cons, va_val, va_own, b_add, b_sub, and_nil, or_nil, q_and, q_or, q_at, q_af, q_ot, q_of, c_ind, c_nind, pu_nil, mg_nil, q_an, q_on, c_nes, c_neb, c_eqb, Bool.not_true, Bool.not_false, q_cons, q_nx, q_ret, q_if, q_tt, q_ff, ss_nil, ss_frz, s_asg, s_ret, out_ok, give_val, give_own, fin_ret, fin_nx, ret_val, ret_own, frz_own, frz_val, frz_bor, List.getD_cons_zero, List.getD_cons_succ, startE, List.map_cons, List.map_nil, List.length_cons, List.length_nil, List.replicate, List.cons_append, List.nil_append, List.getElem?_cons_zero, List.getElem?_cons_succ, List.set_cons_zero, List.set_cons_succ, Nat.reduceSub, Nat.reduceAdd, decide_true, decide_false, Int.reduceAdd, Int.reduceSub, beq_self_eq_true, Bool.false_eq_true, if_false, if_true, s2_0, s2_1]
        rfl)
  obtain ⟨c7, e0⟩ := k2
  subst e0
  have eT : (lets.reverse.take (lets.reverse.map Row.t).length).foldl (fun t p => letT p t) (nmT x) = lets.foldr letT (nmT x) := by
    rw [List.length_map, List.take_length, List.foldl_reverse]
  rw [eT] at k1
  simp only [back_same, back_val, back_no, back_nil] at k1
  rw [k1, q_nx]
  obtain ⟨sh, bkk⟩ := fold_sz nx G.rows
  have rk := G.ch.rk hv
  generalize hT : lets.foldr letT (nmT x) = T at *
  have rT := rep_ok (sh.ok (by have := G.len; omega) (by have := G.len; omega))
  have rN := rep_ok hN
  obtain ⟨r1, f1, h1⟩ := (rk 99 (by have := G.len; omega) (.bor (.dct N0)) (held_bor _)).two
  have f1 : callN tab 99 1 [.own (.lst []), .bor (.dct N0), .val T] = .ok r1 := by
    rw [← f1]
    exact (call_nrm tab 99 1 [.own (.lst []), .bor (.dct N0), .val T]).symm
  have aV := alike_ok (B := 60 + i) (by omega) (3 + i) 99 v (.val v) (.val v) (G.vv x v hv) (held_val v) (held_val v) (by omega)
  have aB := alike_ok (B := 60 + i) (by omega) (3 + i) 99 v (.bor v) (.val v) (G.vv x v hv) (held_bor v) (held_val v) (by omega)
  rcases h1 with e | e <;> subst e <;> simp only [r_law_1, x_str, x_int, x_var, x_bin, x_cmp, x_bl, x_sub, x_slc, x_call, x_tup, x_lst, x_dct, x_and, x_or, x_not, x_isi, x_bfn, xs_nil, xs_cons, bind_ok, d_val, d_own, d_bor, c_eqi, c_eqs, c_lt, c_le, c_gt, c_ge, bl_val, cell_val, cell_own, cell_lent, cell_bor, vas_nil, vas_cons, va_val, va_own, b_add, b_sub, and_nil, or_nil, q_and, q_or, q_at, q_af, q_ot, q_of, c_ind, c_nind, pu_nil, mg_nil, q_an, q_on, c_nes, c_neb, c_eqb, Bool.not_true, Bool.not_false, q_cons, q_nx, q_ret, q_if, q_tt, q_ff, ss_nil, ss_frz, s_asg, s_ret, out_ok, give_val, give_own, fin_ret, fin_nx, ret_val, ret_own, frz_own, frz_val, frz_bor, List.getD_cons_zero, List.getD_cons_succ, startE, List.map_cons, List.map_nil, List.length_cons, List.length_nil, List.replicate, List.cons_append, List.nil_append, List.getElem?_cons_zero, List.getElem?_cons_succ, List.set_cons_zero, List.set_cons_succ, Nat.reduceSub, Nat.reduceAdd, decide_true, decide_false, Int.reduceAdd, Int.reduceSub, beq_self_eq_true, Bool.false_eq_true, if_false, if_true, rN, rT, f1, sub_dct hv, aV, aB, eq_two]
end K05
set_option Elab.async false
set_option linter.all false
set_option maxRecDepth 100000
set_option maxHeartbeats 4000000
set_option autoImplicit false
namespace K05
open PySem Ev L2
def N4 (a : Int) (t : Bool) : List (Str × D) := [(("a" : Str), .int a), (("t" : Str), .bl t), (("r" : Str), .dct []), (("zzzz" : Str), .int 5)]
def N5 (a : Int) (t : Bool) (s : Str) (j : Int) : List (Str × D) := [(("a" : Str), .int a), (("t" : Str), .bl t), (("r" : Str), .dct []), (("zzzz" : Str), .int 5), (("c" : Str), .tup [.str s, .int j])]
def S5 : List (Str × D) := [(("a" : Str), .int 1), (("t" : Str), .int 1), (("r" : Str), .int 1), (("c" : Str), .int 2), (("zzzz" : Str), .int 1)]
theorem keys4 {a : Int} {t : Bool} : Keys (N4 a t) := by
  show (["a", "t", "r", "zzzz"] : List Str).Nodup
  decide +kernel
theorem keys5 {a j : Int} {t : Bool} {s : Str} : Keys (N5 a t s j) := by
  show (["a", "t", "r", "zzzz", "c"] : List Str).Nodup
  decide +kernel
theorem keysS : Keys S5 := by
  show (["a", "t", "r", "c", "zzzz"] : List Str).Nodup
  decide +kernel
theorem put_c {a j : Int} {t : Bool} {s : Str} : put (N4 a t) "c" (.tup [.str s, .int j]) = N5 a t s j := by
  have h : has (N4 a t) "c" = false := by
    cases q : has (N4 a t) "c" with
    | false => rfl
    | true =>
      have z : ("c" : Str) ∈ (["a", "t", "r", "zzzz"] : List Str) := has_iff.mp q
      exact absurd z (by decide +kernel)
  unfold put
  rw [h]
  rfl
theorem N5_mem {a j : Int} {t : Bool} {s x : Str} {v : D} (h : look (N5 a t s j) x = some v) : (x = "a" ∧ v = .int a) ∨ (x = "t" ∧ v = .bl t) ∨ (x = "r" ∧ v = .dct []) ∨ (x = "zzzz" ∧ v = .int 5) ∨ (x = "c" ∧ v = .tup [.str s, .int j]) := by
  have m := lookQ_mem h
  unfold N5 at m
  simpa using m
theorem going0 {a j : Int} {t : Bool} {s : Str} (hs : NmOk s) : Going 0 (N5 a t s j) [] (N5 a t s j) S5 := by
  have inS : ∀ x i, (x, D.int i) ∈ S5 → ∃ z, look S5 x = some (.int z) := fun x i h => ⟨i, look_keys keysS h⟩
  refine ⟨rfl, rfl, Nat.le_refl _, Nat.le_refl _, ?_, ?_, ?_, ?_, ?_, fun p h => (by cases h), fun p r h => (by cases r <;> cases h)⟩
  · intro x v hv
    rcases N5_mem hv with ⟨_, e⟩ | ⟨_, e⟩ | ⟨_, e⟩ | ⟨_, e⟩ | ⟨_, e⟩ <;> rw [e]
    · exact .int
    · exact .bl
    · exact .rcd keys_nil (by show 0 ≤ _; omega) (fun p h => by cases h) (fun p h => by cases h)
    · exact .int
    · exact .cho hs .int
  · intro x v hv
    rcases N5_mem hv with ⟨e, _⟩ | ⟨e, _⟩ | ⟨e, _⟩ | ⟨e, _⟩ | ⟨e, _⟩ <;> rw [e]
    · exact .lit (by decide +kernel)
    · exact .lit (by decide +kernel)
    · exact .lit (by decide +kernel)
    · exact .lit (by decide +kernel)
    · exact .lit (by decide +kernel)
  · intro x v hv
    rcases N5_mem hv with ⟨e, _⟩ | ⟨e, _⟩ | ⟨e, _⟩ | ⟨e, _⟩ | ⟨e, _⟩ <;> rw [e]
    · exact inS _ 1 (by simp [S5])
    · exact inS _ 1 (by simp [S5])
    · exact inS _ 1 (by simp [S5])
    · exact inS _ 1 (by simp [S5])
    · exact inS _ 2 (by simp [S5])
  · exact look_keys keys5 (by simp [N5])
  · exact look_keys keysS (by simp [S5])
theorem N5_show {a j : Int} {t : Bool} {s : Str} (hs : NmOk s) (ha : a.natAbs < 10 ^ 29) (hj : j.natAbs < 10 ^ 29) : (D.dct (N5 a t s j)).showOk = true := by
  have ev : ∀ p, p ∈ N5 a t s j → NmOk p.1 ∧ Shw 1 p.2 ∧ bk p.2 ≤ 20 := fun p hp => by
    unfold N5 at hp
    simp only [List.mem_cons, List.not_mem_nil, or_false] at hp
    rcases hp with e | e | e | e | e <;> rw [e]
    · exact ⟨.lit (x := "a") (by decide +kernel), (Shw.of (Nice.int ha)).mono (Nat.zero_le _), by show 0 ≤ 20; decide⟩
    · exact ⟨.lit (x := "t") (by decide +kernel), (Shw.of Nice.bl).mono (Nat.zero_le _), by show 0 ≤ 20; decide⟩
    · exact ⟨.lit (x := "r") (by decide +kernel), Shw.dct (m := 0) (fun p h => by cases h) (fun p h => by cases h), by show 0 ≤ 20; decide⟩
    · exact ⟨.lit (x := "zzzz") (by decide +kernel), (Shw.of (Nice.int (by decide))).mono (Nat.zero_le _), by show 0 ≤ 20; decide⟩
    · refine ⟨.lit (x := "c") (by decide +kernel), shw2 hs.shw (.of (Nice.int hj)), ?_⟩
      show bk (.tup [.str s, .int j]) ≤ 20
      rw [bk2, bk_int]
      have := nm_bk hs
      omega
  have z : Shw 2 (.dct (N5 a t s j)) := Shw.dct (fun p hp => (ev p hp).1) fun p hp => (ev p hp).2.1
  refine z.ok ?_ (by decide)
  have le : ∀ ks : List (Str × D), (∀ p, p ∈ ks → NmOk p.1 ∧ Shw 1 p.2 ∧ bk p.2 ≤ 20) → bkD ks ≤ ks.length * 40 := by
    intro ks
    induction ks with
    | nil => intro _; exact Nat.le_refl _
    | cons p r ih =>
      intro h
      obtain ⟨k, v⟩ := p
      have y := ih fun q hq => h q (List.mem_cons_of_mem _ hq)
      obtain ⟨y1, _, y3⟩ := h _ List.mem_cons_self
      have y4 : k.length ≤ 12 := y1.len
      have y5 : bk v ≤ 20 := y3
      rw [bkD_cons, List.length_cons]
      omega
  have y := le _ ev
  rw [bk_dct]
  exact Nat.le_trans y (by show 5 * 40 ≤ 500000; decide)
theorem enumL_len : ∀ (ds : List D) (n : Nat), (enumFrom n ds).length = ds.length
  | [], n => rfl
  | _ :: r, n => by unfold enumFrom; rw [List.length_cons, List.length_cons, enumL_len r]
theorem enumL_get : ∀ (ds : List D) (n i : Nat) (d : D), ds[i]? = some d → (enumFrom n ds)[i]? = some (.tup [.int ((n + i : Nat) : Int), d])
  | [], n, i, d, h => by cases h
  | x :: r, n, 0, d, h => by
    unfold enumFrom
    rw [List.getElem?_cons_zero] at h ⊢
    injection h with h
    rw [h]
    rfl
  | x :: r, n, i + 1, d, h => by
    unfold enumFrom
    rw [List.getElem?_cons_succ] at h ⊢
    rw [enumL_get r (n + 1) i d h]
    have e : n + 1 + i = n + (i + 1) := by omega
    rw [e]
theorem cut_it {ns : List Int} {i : Nat} {d : D} (h : (enumFrom 0 (cutL (ns.map D.int) (some 2) (some 32)))[i]? = some d) : i < (cutL (ns.map D.int) (some 2) (some 32)).length ∧ ∃ c : Int, d = .tup [.int (i : Int), .int c] := by
  obtain ⟨hi, _⟩ := List.getElem?_eq_some_iff.mp h
  rw [enumL_len] at hi
  refine ⟨hi, ?_⟩
  have g := List.getElem?_eq_getElem hi
  have z := enumL_get _ 0 i _ g
  rw [z] at h
  injection h with h
  have m := List.getElem_mem hi
  have m2 : (cutL (ns.map D.int) (some 2) (some 32))[i] ∈ ns.map D.int := List.mem_of_mem_drop (List.mem_of_mem_take m)
  obtain ⟨c, _, e⟩ := List.mem_map.mp m2
  exact ⟨c, by rw [← h, ← e, Nat.zero_add]⟩
theorem law_true (ns : List Int) (h : ns.length ≤ 63) : callN tab 100 23 [.bor (.lst (ns.map D.int))] = .ok (.val (.bl true)) := by
  have hz : lim = 16777216 := rfl
  have n0 : callN tab 99 11 [.bor (.lst (ns.map .int)), .val (.int 0)] = .ok (.val (.int (ns.getD 0 0))) := cell_ok (T := tab) rfl (n := 98) ns 0 h _ (.inl rfl)
  have n1 : callN tab 99 11 [.bor (.lst (ns.map .int)), .val (.int 1)] = .ok (.val (.int (ns.getD 1 0))) := cell_ok (T := tab) rfl (n := 98) ns 1 h _ (.inl rfl)
  have m2001 := fun (i : Int) => b_mod (i := i) (j := 2001) (by decide)
  have m2 := fun (i : Int) => b_mod (i := i) (j := 2) (by decide)
  have m9 := fun (i : Int) => b_mod (i := i) (j := 9) (by decide)
  obtain ⟨a0, a1⟩ := fmod_range (a := ns.getD 0 0) (m := 2001) (by decide)
  obtain ⟨j0, j1⟩ := fmod_range (a := ns.getD 1 0) (m := 9) (by decide)
  obtain ⟨s, nt, hs⟩ := name5_ok (n := 98) (ns.getD 1 0)
  have nt : callN tab 99 12 [.val (.int (ns.getD 1 0))] = .ok (.val (.str s)) := nt
  obtain ⟨a, ea⟩ : ∃ a, a = (ns.getD 0 0).fmod 2001 - 1000 := ⟨_, rfl⟩
  obtain ⟨t, et⟩ : ∃ t, t = ((ns.getD 0 0).fmod 2 == 0) := ⟨_, rfl⟩
  obtain ⟨j, ej⟩ : ∃ j, j = (ns.getD 1 0).fmod 9 := ⟨_, rfl⟩
  obtain ⟨SC, eS⟩ : ∃ SC, SC = D.lst (ns.map D.int) := ⟨_, rfl⟩
  rw [call_fin tab 99 23 f_law _ rfl rfl]
  have e0 : startE f_law.N.length [.bor (.lst (ns.map D.int))] = [.bor SC, .no, .no, .no, .no, .no, .no, .no, .no, .no, .no, .no, .no, .no, .no] := by rw [eS]; rfl
  rw [e0]
  rw [← eS] at n0 n1
  have pu : pairUp [.str "a", .int a, .str "t", .bl t, .str "r", .dct [], .str "zzzz", .int 5] = .ok (N4 a t) := rfl
  have mg : merge [] (N4 a t) = N4 a t := merge_keys keys4
  have pu2 : pairUp [.str "a", .int 1, .str "t", .int 1, .str "r", .int 1, .str "c", .int 2, .str "zzzz", .int 1] = .ok S5 := rfl
  have mg2 : merge [] S5 = S5 := merge_keys keysS
  have sc : evS (callN tab 99) tab.sub [.bor SC, .own (.dct (N4 a t)), .no, .no, .no, .no, .no, .no, .no, .no, .no, .no, .no, .no, .no] (.setI 1 (.cstr ("c" : Str)) (.tup (.cons (.call 12 (.cons (.call 11 (.cons (.var 0) (.cons (.cint 1) .nil))) .nil)) (.cons (.bin .mod (.call 11 (.cons (.var 0) (.cons (.cint 1) .nil))) (.cint 9)) .nil)))) = .nx [.bor SC, .own (.dct (N5 a t s j)), .no, .no, .no, .no, .no, .no, .no, .no, .no, .no, .no, .no, .no] := by
    rw [s_setO (d := .dct (N4 a t)) rfl]
    simp only [x_str, x_int, x_var, x_bin, x_cmp, x_bl, x_sub, x_slc, x_call, x_tup, x_lst, x_dct, x_and, x_or, x_not, x_isi, x_bfn, xs_nil, xs_cons, bind_ok, d_val, d_own, d_bor, c_eqi, c_eqs, c_lt, c_le, c_gt, c_ge, bl_val, cell_val, cell_own, cell_lent, cell_bor, vas_nil, vas_cons, va_val, va_own, b_add, b_sub, and_nil, or_nil, q_and, q_or, q_at, q_af, q_ot, q_of, c_ind, c_nind, pu_nil, mg_nil, q_an, q_on, c_nes, c_neb, c_eqb, Bool.not_true, Bool.not_false, startE, List.map_cons, List.map_nil, List.length_cons, List.length_nil, List.replicate, List.cons_append, List.nil_append, List.getElem?_cons_zero, List.getElem?_cons_succ, List.set_cons_zero, List.set_cons_succ, Nat.reduceSub, Nat.reduceAdd, decide_true, decide_false, Int.reduceAdd, Int.reduceSub, beq_self_eq_true, Bool.false_eq_true, if_false, if_true, n1, nt, m9, ← ej]
    rw [out_ok, setO_dct rfl (by rw [hz]; show 4 < 16777216; decide), put_c]
    rfl
  have ez : evSs (callN tab 99) tab.sub [.bor SC, .no, .no, .no, .no, .no, .no, .no, .no, .no, .no, .no, .no, .no, .no] f_law.body = runSs (callN tab 99) tab.sub (evS (callN tab 99) tab.sub [.bor SC, .own (.dct (N5 a t s j)), .own (.dct (N5 a t s j)), .own (.dct S5), .own (.lst []), .no, .no, .no, .no, .no, .no, .no, .no, .no, .no] (.forr [10, 11] (.enum (.slc (.var 0) (.cint 2) (.cint 32))) b_law_0)) r_law_0 := by
    simp only [f_law, x_str, x_int, x_var, x_bin, x_cmp, x_bl, x_sub, x_slc, x_call, x_tup, x_lst, x_dct, x_and, x_or, x_not, x_isi, x_bfn, xs_nil, xs_cons, bind_ok, d_val, d_own, d_bor, c_eqi, c_eqs, c_lt, c_le, c_gt, c_ge, bl_val, cell_val, cell_own, cell_lent, cell_bor, vas_nil, vas_cons, va_val, va_own, b_add, b_sub, and_nil, or_nil, q_and, q_or, q_at, q_af, q_ot, q_of, c_ind, c_nind, pu_nil, mg_nil, q_an, q_on, c_nes, c_neb, c_eqb, Bool.not_true, Bool.not_false, q_cons, q_nx, q_ret, q_if, q_tt, q_ff, ss_nil, ss_frz, s_asg, s_ret, out_ok, give_val, give_own, fin_ret, fin_nx, ret_val, ret_own, frz_own, frz_val, frz_bor, List.getD_cons_zero, List.getD_cons_succ, startE, List.map_cons, List.map_nil, List.length_cons, List.length_nil, List.replicate, List.cons_append, List.nil_append, List.getElem?_cons_zero, List.getElem?_cons_succ, List.set_cons_zero, List.set_cons_succ, Nat.reduceSub, Nat.reduceAdd, decide_true, decide_false, Int.reduceAdd, Int.reduceSub, beq_self_eq_true, Bool.false_eq_true, if_false, if_true, n0, m2001, m2, ← ea, ← et, pu, mg, sc, dct_dct, pu2, mg2]
  rw [ez]
  have hl63 : (cutL (ns.map D.int) (some 2) (some 32)).length ≤ 63 := by
    unfold cutL
    rw [List.length_take, List.length_drop, List.length_map]
    omega
  have it1 : evIt (callN tab 99) tab.sub [.bor SC, .own (.dct (N5 a t s j)), .own (.dct (N5 a t s j)), .own (.dct S5), .own (.lst []), .no, .no, .no, .no, .no, .no, .no, .no, .no, .no] (.enum (.slc (.var 0) (.cint 2) (.cint 32))) = .ok (enumFrom 0 (cutL (ns.map D.int) (some 2) (some 32))) := by
    have ex : evX (callN tab 99) tab.sub [.bor SC, .own (.dct (N5 a t s j)), .own (.dct (N5 a t s j)), .own (.dct S5), .own (.lst []), .no, .no, .no, .no, .no, .no, .no, .no, .no, .no] (.slc (.var 0) (.cint 2) (.cint 32)) = .ok (.own (.lst (cutL (ns.map D.int) (some 2) (some 32)))) := by
      rw [x_slc, x_var, x_int, x_int, eS]
      rfl
    rw [i_enum, ex]
    exact if_pos (by omega)
  obtain ⟨e', k1, k2⟩ := for_inv (tg := [10, 11]) (b := b_law_0) it1 (fun i e => ∃ (lets : List Row) (K S : List (Str × D)) (c10 c11 c12 c13 c14 : Cel), e = [.bor SC, .own (.dct (N5 a t s j)), .own (.dct K), .own (.dct S), .own (.lst (lets.map Row.t)), .no, .no, .no, .no, .no, c10, c11, c12, c13, c14] ∧ Going i (N5 a t s j) lets K S)
    ⟨[], N5 a t s j, S5, .no, .no, .no, .no, .no, rfl, going0 hs.nm⟩ (fun i d e1 hd ⟨lets, K, S, c10, c11, c12, c13, c14, e0, G⟩ => by
      obtain ⟨hi, c, ed⟩ := cut_it hd
      subst ed e0
      obtain ⟨p, K', S', x, y, z, q, G'⟩ := body_ok G (by omega) SC c c12 c13 c14
      exact ⟨_, _, rfl, q, lets ++ [p], K', S', _, _, x, y, z, rfl, G'⟩)
  obtain ⟨lets, K, S, c10, c11, c12, c13, c14, e0, G⟩ := k2
  subst e0
  simp only [back_same, back_val, back_no, back_own, back_nil] at k1
  rw [k1, q_nx]
  rw [enumL_len] at G
  refine tail_ok G (by omega) ⟨.int a, look_keys keys5 (by simp [N5])⟩ (N5_show hs.nm ?_ ?_) SC c10 c11 c12 c13 c14
  · have : a.natAbs ≤ 1001 := by omega
    exact Nat.lt_of_le_of_lt this (by decide)
  · have : j.natAbs ≤ 9 := by omega
    exact Nat.lt_of_le_of_lt this (by decide)
end K05
open PySem PySem.W PyProof.Rows
set_option maxRecDepth 100000 in
set_option maxHeartbeats 0 in
theorem PySem.Challenge.cw_kindsure_k05_records_and_choices_reckone_holds : PySem.Challenge.rw_kindsure_k05_records_and_choices_reckone.Holds := by
  w_on; o_law; k_head; (case hw => w_witness2)
  k_fill
  refine K05.walk (l := PySem.Challenge.rw_kindsure_k05_records_and_choices_reckone) rfl rfl ?imp (fun w h Y => PySem.W.kIn_of Y) K05.law_true ?F
  case imp => decide +kernel
  case F =>
    intro w mg fa h KX G hmg
    refine' K05.all_mk KX G hmg ?a0 ?l0 ?c0 ?k0 ?a1 ?l1 ?c1 ?k1 ?a2 ?l2 ?c2 ?k2 ?a3 ?l3 ?c3 ?k3 ?a4 ?l4 ?c4 ?k4 ?a5 ?l5 ?c5 ?k5 ?a6 ?l6 ?c6 ?k6 ?a7 ?l7 ?c7 ?k7 ?a8 ?l8 ?c8 ?k8 ?a9 ?l9 ?c9 ?k9 ?a10 ?l10 ?c10 ?k10 ?a11 ?l11 ?c11 ?k11 ?a12 ?l12 ?c12 ?k12 ?a13 ?l13 ?c13 ?k13 ?a14 ?l14 ?c14 ?k14 ?a15 ?l15 ?c15 ?k15 ?a16 ?l16 ?c16 ?k16 ?a17 ?l17 ?c17 ?k17 ?a18 ?l18 ?c18 ?k18 ?a19 ?l19 ?c19 ?k19 ?a20 ?l20 ?c20 ?k20 ?a21 ?l21 ?c21 ?k21 ?a22 ?l22 ?c22 ?k22 ?a23 ?l23 ?c23 ?k23 ?cA0 ?cB0 ?cD0 ?cT0 ?cX0 ?cK0 ?cP0 ?cV0 ?cG0 ?cH0 ?cE0 ?cM0 ?cA1 ?cB1 ?cD1 ?cT1 ?cX1 ?cK1 ?cP1 ?cV1 ?cG1 ?cH1 ?cE1 ?cM1 ?cA2 ?cB2 ?cD2 ?cT2 ?cX2 ?cK2 ?cP2 ?cV2 ?cG2 ?cH2 ?cE2 ?cM2 ?cA3 ?cB3 ?cD3 ?cT3 ?cX3 ?cK3 ?cP3 ?cV3 ?cG3 ?cH3 ?cE3 ?cM3 ?cA4 ?cB4 ?cD4 ?cT4 ?cX4 ?cK4 ?cP4 ?cV4 ?cG4 ?cH4 ?cE4 ?cM4 ?cA5 ?cB5 ?cD5 ?cT5 ?cX5 ?cK5 ?cP5 ?cV5 ?cG5 ?cH5 ?cE5 ?cM5 ?cn ?ct ?gMOST ?z0 ?z1 ?z2 ?z3 ?z4 ?z5 ?z6 ?z7 ?z8 ?z9 ?z10 ?z11 ?z12 ?z13 ?z14 ?z15 ?z16 ?z17
    (case a0 => k_is); (case l0 => k_is); (case c0 => k_is); (case k0 => k_is)
    (case a1 => k_is); (case l1 => k_is); (case c1 => k_is); (case k1 => k_is)
    (case a2 => k_is); (case l2 => k_is); (case c2 => k_is); (case k2 => k_is)
    (case a3 => k_is); (case l3 => k_is); (case c3 => k_is); (case k3 => k_is)
    (case a4 => k_is); (case l4 => k_is); (case c4 => k_is); (case k4 => k_is)
    (case a5 => k_is); (case l5 => k_is); (case c5 => k_is); (case k5 => k_is)
    (case a6 => k_is); (case l6 => k_is); (case c6 => k_is); (case k6 => k_is)
    (case a7 => k_is); (case l7 => k_is); (case c7 => k_is); (case k7 => k_is)
    (case a8 => k_is); (case l8 => k_is); (case c8 => k_is); (case k8 => k_is)
    (case a9 => k_is); (case l9 => k_is); (case c9 => k_is); (case k9 => k_is)
    (case a10 => k_is); (case l10 => k_is); (case c10 => k_is); (case k10 => k_is)
    (case a11 => k_is); (case l11 => k_is); (case c11 => k_is); (case k11 => k_is)
    (case a12 => k_is); (case l12 => k_is); (case c12 => k_is); (case k12 => k_is)
    (case a13 => k_is); (case l13 => k_is); (case c13 => k_is); (case k13 => k_is)
    (case a14 => k_is); (case l14 => k_is); (case c14 => k_is); (case k14 => k_is)
    (case a15 => k_is); (case l15 => k_is); (case c15 => k_is); (case k15 => k_is)
    (case a16 => k_is); (case l16 => k_is); (case c16 => k_is); (case k16 => k_is)
    (case a17 => k_is); (case l17 => k_is); (case c17 => k_is); (case k17 => k_is)
    (case a18 => k_is); (case l18 => k_is); (case c18 => k_is); (case k18 => k_is)
    (case a19 => k_is); (case l19 => k_is); (case c19 => k_is); (case k19 => k_is)
    (case a20 => k_is); (case l20 => k_is); (case c20 => k_is); (case k20 => k_is)
    (case a21 => k_is); (case l21 => k_is); (case c21 => k_is); (case k21 => k_is)
    (case a22 => k_is); (case l22 => k_is); (case c22 => k_is); (case k22 => k_is)
    (case a23 => k_is); (case l23 => k_is); (case c23 => k_is); (case k23 => k_is)
    (case cA0 => k_is)
    (case cB0 => k_is)
    (case cD0 => k_is)
    (case cT0 => k_is)
    (case cX0 => k_exc)
    (case cK0 => k_is)
    (case cP0 => first | rfl | k_is)
    (case cV0 => k_is)
    (case cG0 => k_is)
    (case cH0 => k_is)
    (case cE0 => k_is)
    (case cM0 => k_is)
    (case cA1 => k_is)
    (case cB1 => k_is)
    (case cD1 => k_is)
    (case cT1 => k_is)
    (case cX1 => k_exc)
    (case cK1 => k_is)
    (case cP1 => first | rfl | k_is)
    (case cV1 => k_is)
    (case cG1 => k_is)
    (case cH1 => k_is)
    (case cE1 => k_is)
    (case cM1 => k_is)
    (case cA2 => k_is)
    (case cB2 => k_is)
    (case cD2 => k_is)
    (case cT2 => k_is)
    (case cX2 => k_exc)
    (case cK2 => k_is)
    (case cP2 => first | rfl | k_is)
    (case cV2 => k_is)
    (case cG2 => k_is)
    (case cH2 => k_is)
    (case cE2 => k_is)
    (case cM2 => k_is)
    (case cA3 => k_is)
    (case cB3 => k_is)
    (case cD3 => k_is)
    (case cT3 => k_is)
    (case cX3 => k_exc)
    (case cK3 => k_is)
    (case cP3 => first | rfl | k_is)
    (case cV3 => k_is)
    (case cG3 => k_is)
    (case cH3 => k_is)
    (case cE3 => k_is)
    (case cM3 => k_is)
    (case cA4 => k_is)
    (case cB4 => k_is)
    (case cD4 => k_is)
    (case cT4 => k_is)
    (case cX4 => k_exc)
    (case cK4 => k_is)
    (case cP4 => first | rfl | k_is)
    (case cV4 => k_is)
    (case cG4 => k_is)
    (case cH4 => k_is)
    (case cE4 => k_is)
    (case cM4 => k_is)
    (case cA5 => k_is)
    (case cB5 => k_is)
    (case cD5 => k_is)
    (case cT5 => k_is)
    (case cX5 => k_exc)
    (case cK5 => k_is)
    (case cP5 => first | rfl | k_is)
    (case cV5 => k_is)
    (case cG5 => k_is)
    (case cH5 => k_is)
    (case cE5 => k_is)
    (case cM5 => k_is)
    (case cn => k_is)
    (case ct => k_is)
    (case gMOST => k_is)
    (case z0 => k_is)
    (case z1 => k_is)
    (case z2 => k_is)
    (case z3 => k_is)
    (case z4 => k_is)
    (case z5 => k_is)
    (case z6 => k_is)
    (case z7 => k_is)
    (case z8 => k_is)
    (case z9 => k_is)
    (case z10 => k_is)
    (case z11 => k_is)
    (case z12 => k_is)
    (case z13 => k_is)
    (case z14 => k_is)
    (case z15 => k_is)
    (case z16 => k_is)
    (case z17 => k_is)
